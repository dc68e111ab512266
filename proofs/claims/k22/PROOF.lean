import PyProof.Rows.All
import Wide.All
import OpenK.AllK
import Wide.FinOn
import HandS.ForMost
import HandS.Evl
import HandS.IsInst
import HandS.Style
import HandS.SortInts
import HandS.ListItems
import HandS.DictComp
import KE.DatumMoreOrd
import KE.DatumIndex
import KE.GoesZip
import KE.GoesMore
import KE.KTupSum
import KE.KDictSum
import HandS.Zip
import HandS.SortKw
import HandS.TupMul
import HandS.SetKeys
import HandS.Conv
import HandS.TupAny
import HandS.OwnEq
import HandS.SlotsOwn
import HandS.HeadEnd
import KE.GoesEnum
import HandS.TupLe
import HandS.NoneIn
import HandS.SetFor
import HandS.Set
import HandS.Exc
import HandS.ExcOwn
import HandS.ExcIs
import HandS.WordsExc
import HandS.WideBits
import HandS.Text
import HandS.MakeKwOnly
import PyProof.InstEq
import KE.SortData
import KE.KItemsList
import HandS.DictTup
import PyProof.ConsumeS
import PyProof.WalkInts
import PyProof.GenQ
import HandS.Ends
import PyProof.ReprReads
import PyProof.Rows.StrMeet
import HandS.Finally
import HandS.ExcInit
import HandS.ExcField
import HandS.DeepEq
import PyProof.SliceList
import HandS.ListEq
import HandS.DictEq
import HandS.TryOnly
import PyProof.NeKinds
import KE.KEqDict
import HandS.EndTab
import HandS.NestedK
import KE.SortKeyHeap
import PyProof.Rows.StrFit
import PyProof.ReprLen
import PyProof.StrLawsRepr
import PyProof.Rows.RegStrFacts
import PySem.Challenge.RW_bygone_k22_whole_heaps_laid
set_option Elab.async false
set_option linter.all false
set_option maxRecDepth 100000
set_option maxHeartbeats 4000000
/-! B: worlds (an unchanging part of the heap within the heap), data read off the unchanging part, what a reading evaluates to -/
namespace B
open PySem L2
abbrev SS := L2.St
abbrev Fg := PySem.W.Frag
open Evl (Ex)
open PySem.W (Tup T3 T4 Datum DatumOrd)

/-! ### heaps -/
/-- all is kept, but that a dict may be locked -/
def Ext (H H' : Hp) : Prop := ∀ a o, H a = some o → H' a = some o ∨ ((∃ kvs, o = HO.dK kvs) ∧ ∃ ob, H' a = some (.frz ob o))
theorem Ext.refl (H : Hp) : Ext H H := fun _ _ h => .inl h
theorem exExt {H H' : Hp} (e : Ex H H') : Ext H H' := fun a o h => .inl (e a o h)
theorem Ext.trans {H H1 H2 : Hp} (a : Ext H H1) (b : Ext H1 H2) : Ext H H2 := fun x o h => by
  rcases a x o h with h1 | ⟨⟨k, rfl⟩, ob, h1⟩
  · exact b x o h1
  · rcases b x _ h1 with h2 | ⟨⟨k', h2⟩, _⟩
    · exact .inr ⟨⟨k, rfl⟩, ob, h2⟩
    · cases h2
theorem Ext.rd {H H' : Hp} {a : Addr} {u : HO} (e : Ext H H') (h : Rd H a u) : Rd H' a u := by
  rcases h with h | ⟨o, h⟩
  · rcases e a _ h with h1 | ⟨_, ob, h1⟩
    · exact .inl h1
    · exact .inr ⟨ob, h1⟩
  · rcases e a _ h with h1 | ⟨⟨k, h1⟩, _⟩
    · exact .inr ⟨o, h1⟩
    · cases h1
theorem Ext.free {H H' : Hp} {p : Addr} (e : Ext H H') (h : H' p = none) : H p = none := by
  cases q : H p with
  | none => rfl
  | some o => rcases e p o q with h1 | ⟨_, ob, h1⟩ <;> (rw [h] at h1; cases h1)
theorem Ext.l {K : Fg} {H H' : Hp} {a : Addr} {xs : List V} (e : Ext H H') (h : SqL K H a xs) : SqL K H' a xs := by
  rcases h with h | h
  · exact .inl (e.rd h)
  · exact .inr h
theorem Ext.t {K : Fg} {H H' : Hp} {a : Addr} {xs : List V} (e : Ext H H') (h : SqT K H a xs) : SqT K H' a xs := by
  rcases h with h | h
  · exact .inl (e.rd h)
  · exact .inr h
theorem Ext.el {H H' : Hp} {a : Addr} {xs : List V} (e : Ext H H') (h : H a = some (.lst xs)) : H' a = some (.lst xs) := by
  rcases e a _ h with h1 | ⟨⟨_, q⟩, _⟩
  · exact h1
  · cases q
theorem Ext.et {H H' : Hp} {a : Addr} {xs : List V} (e : Ext H H') (h : H a = some (.tup xs)) : H' a = some (.tup xs) := by
  rcases e a _ h with h1 | ⟨⟨_, q⟩, _⟩
  · exact h1
  · cases q
theorem Ext.ins {H H' : Hp} {a C dx : Addr} {fs : List (Str × V)} (e : Ext H H') (h : H a = some (.ins C dx fs)) : H' a = some (.ins C dx fs) := by
  rcases e a _ h with h1 | ⟨⟨_, q⟩, _⟩
  · exact h1
  · cases q
theorem Ext.lock {H : Hp} {d : Addr} {kvs : List (Key × V)} {od : Obj} (h : H d = some (.dK kvs)) : Ext H (upd H d (.frz od (.dK kvs))) := fun a o e => by
  by_cases q : a = d
  · subst q
    rw [h] at e; cases e
    exact .inr ⟨⟨kvs, rfl⟩, od, upd_same⟩
  · exact .inl (by rw [upd_ne q]; exact e)

/-- a world: the heap H, within it the part B that stays as it is -/
structure Wd where
  B : Hp
  H : Hp
  sub : Ext B H
/-- a thing that is no tuple stands at a -/
def Nt (H : Hp) (a : Addr) : Prop := ∃ o, H a = some o ∧ ∀ xs, o ≠ .tup xs
theorem Nt.ne {H : Hp} {a : Addr} (h : Nt H a) : H a ≠ none := by
  obtain ⟨o, e, _⟩ := h
  rw [e]; exact fun z => by cases z
theorem Nt.l {H : Hp} {a : Addr} {xs : List V} (h : H a = some (.lst xs)) : Nt H a := ⟨_, h, fun _ z => by cases z⟩
theorem Nt.k {H : Hp} {a : Addr} {xs : List (Key × V)} (h : H a = some (.dK xs)) : Nt H a := ⟨_, h, fun _ z => by cases z⟩
/-- the world has moved on: what stays is as it was (and no more of it is locked), of the rest only S may have changed; what was free to change still is -/
structure Md (S : List Addr) (W W' : Wd) : Prop where
  b : Ex W.B W'.B
  l : ∀ a o, W.B a = some o → W.H a = some o → W'.H a = some o
  o : ∀ a o, a ∉ S → W.H a = some o → W'.H a = some o
  m : ∀ a, Nt W.H a → W'.B a = W.B a
  d : ∀ a, W.H a ≠ none → W'.H a ≠ none
  n : ∀ a, Nt W.H a → Nt W'.H a
theorem Md.refl (S : List Addr) (W : Wd) : Md S W W := ⟨Evl.Ex.refl _, fun _ _ _ h => h, fun _ _ _ h => h, fun _ _ => rfl, fun _ h => h, fun _ h => h⟩
theorem Md.trans {S : List Addr} {W W1 W2 : Wd} (a : Md S W W1) (b : Md S W1 W2) : Md S W W2 := ⟨a.b.trans b.b, fun x o h1 h2 => b.l x o (a.b x o h1) (a.l x o h1 h2), fun x o h1 h2 => b.o x o h1 (a.o x o h1 h2), fun x hx => by
  rw [b.m x (a.n x hx), a.m x hx], fun x hx => b.d x (a.d x hx), fun x hx => b.n x (a.n x hx)⟩
theorem Md.mono {S S' : List Addr} {W W' : Wd} (a : Md S W W') (h : ∀ x, x ∈ S → x ∈ S') : Md S' W W' := ⟨a.b, a.l, fun x o h1 h2 => a.o x o (fun z => h1 (h x z)) h2, a.m, a.d, a.n⟩
theorem Md.mut {S : List Addr} {W W' : Wd} (g : Md S W W') {a : Addr} {o : HO} (hS : a ∉ S) (h : W.H a = some o) (n : W.B a = none) (ho : ∀ xs, o ≠ .tup xs := by intro _ h; cases h) : W'.H a = some o ∧ W'.B a = none :=
  ⟨g.o a o hS h, by rw [g.m a ⟨o, h, ho⟩]; exact n⟩
abbrev Grow := Md []
theorem Md.h {W W' : Wd} (g : Md [] W W') : Ex W.H W'.H := fun a o e => g.o a o (by simp) e
theorem Grow.s {S : List Addr} {W W' : Wd} (g : Grow W W') : Md S W W' := g.mono fun _ h => by simp at h
theorem Grow.mk {W W' : Wd} (b : Ex W.B W'.B) (h : Ex W.H W'.H) (m : ∀ a, Nt W.H a → W'.B a = W.B a) : Grow W W' := ⟨b, fun a o _ h2 => h a o h2, fun a o _ h2 => h a o h2, m, fun a h2 z => (by
  cases q : W.H a with
  | none => exact h2 q
  | some o => rw [h a o q] at z; cases z), fun a ⟨o, e, ho⟩ => ⟨o, h a o e, ho⟩⟩
theorem Wd.free (W : Wd) {p : Addr} (h : W.H p = none) : W.B p = none := W.sub.free h
/-- a new thing that stays -/
def Wd.add (W : Wd) (p : Addr) (o : HO) : Wd := ⟨upd W.B p o, upd W.H p o, fun a u e => by
  by_cases q : a = p
  · subst q; rw [upd_same] at e; cases e; exact .inl upd_same
  · rw [upd_ne q] at e; rw [upd_ne q]; exact W.sub a u e⟩
theorem Wd.grow_add (W : Wd) {p : Addr} {o : HO} (h : W.H p = none) : Grow W (W.add p o) :=
  .mk (Evl.Ex.new (W.free h)) (Evl.Ex.new h) fun a ha => by
    have : a ≠ p := fun e => ha.ne (by rw [e]; exact h)
    show upd W.B p o a = W.B a
    rw [upd_ne this]
/-- a thing that may change, new or changed -/
def Wd.put (W : Wd) (p : Addr) (o : HO) (h : W.B p = none) : Wd := ⟨W.B, upd W.H p o, fun a u e => by
  have q : a ≠ p := fun q => by rw [q, h] at e; cases e
  rw [upd_ne q]; exact W.sub a u e⟩
theorem Wd.grow_put (W : Wd) {p : Addr} {o : HO} (h : W.H p = none) : Grow W (W.put p o (W.free h)) :=
  .mk (Evl.Ex.refl _) (Evl.Ex.new h) fun _ _ => rfl
theorem md_put {W : Wd} {p : Addr} {o : HO} (h : W.B p = none) (ho : ∀ xs, o ≠ .tup xs := by intro _ h; cases h) : Md [p] W (W.put p o h) := ⟨Evl.Ex.refl _, fun a u h1 h2 => by
    have : a ≠ p := fun e => by rw [e, h] at h1; cases h1
    show upd W.H p o a = some u
    rw [upd_ne this]; exact h2, fun a u h1 h2 => by
    have : a ≠ p := fun e => h1 (by rw [e]; simp)
    show upd W.H p o a = some u
    rw [upd_ne this]; exact h2, fun _ _ => rfl, fun a ha => by
    show upd W.H p o a ≠ none
    by_cases q : a = p
    · rw [q, upd_same]; exact fun z => by cases z
    · rw [upd_ne q]; exact ha, fun a ha => by
    show Nt (upd W.H p o) a
    by_cases q : a = p
    · rw [q]; exact ⟨o, upd_same, ho⟩
    · obtain ⟨u, e, hu⟩ := ha
      exact ⟨u, (upd_ne q).trans e, hu⟩⟩
/-- tuples never change: those at bs may be taken into what stays -/
def Wd.tup (W : Wd) (bs : List Addr) : Wd := ⟨fun b => match W.B b with
    | some o => some o
    | none => match W.H b with
      | some (.tup xs) => if b ∈ bs then some (.tup xs) else none
      | _ => none, W.H, fun b o e => by
  cases q : W.B b with
  | some u =>
    simp only [q] at e
    cases e
    exact W.sub b _ q
  | none =>
    simp only [q] at e
    cases q2 : W.H b with
    | none => simp only [q2] at e; cases e
    | some u =>
      cases u <;> simp only [q2] at e <;> try (cases e; done)
      split at e
      · cases e; exact .inl rfl
      · cases e⟩
theorem Wd.grow_tup (W : Wd) (bs : List Addr) : Grow W (W.tup bs) := .mk (fun b o e => by
    show (match W.B b with | some o => some o | none => _) = some o
    rw [e]) (fun _ _ h => h) fun b ⟨o, e, ho⟩ => by
  show (match W.B b with | some o => some o | none => _) = W.B b
  cases q : W.B b with
  | some u => rfl
  | none =>
    rw [e]
    cases o <;> first | rfl | exact absurd rfl (ho _)
theorem Wd.tup_at {W : Wd} {bs : List Addr} {b : Addr} {xs : List V} (h : W.H b = some (.tup xs)) (hb : b ∈ bs) : (W.tup bs).B b = some (.tup xs) := by
  show (match W.B b with | some o => some o | none => _) = _
  cases q : W.B b with
  | some u =>
    rcases W.sub b _ q with z | ⟨⟨k, rfl⟩, ob, z⟩
    · rw [h] at z; cases z; rfl
    · rw [h] at z; cases z
  | none =>
    simp only [h, if_pos hb]
/-- what an expression may do: S may change, I holds throughout -/
structure Ef where
  S : List Addr
  I : Wd → Prop
  dom : ∀ W a, I W → a ∈ S → Nt W.H a
  mv : ∀ W W', Ex W.B W'.B → (∀ a, a ∈ S → Nt W.H a → W'.H a = W.H a ∧ W'.B a = W.B a) → I W → I W'
theorem Ef.grow (ε : Ef) (W W' : Wd) (g : Grow W W') (h : ε.I W) : ε.I W' := ε.mv W W' g.b (fun a _ ha => by
  obtain ⟨o, q, _⟩ := id ha
  exact ⟨(g.h a o q).trans q.symm, g.m a ha⟩) h
theorem Ef.off {ε : Ef} {W : Wd} {D : Addr} (i : ε.I W) (h : W.H D = none) : D ∉ ε.S := fun z => (ε.dom W D i z).ne h
def pur : Ef := ⟨[], fun _ => True, fun _ _ _ h => by simp at h, fun _ _ _ _ _ => trivial⟩
structure Stp (ε : Ef) (W W' : Wd) : Prop where
  md : Md ε.S W W'
  i : ε.I W'
theorem Stp.rf {ε : Ef} {W W' : Wd} (a : Stp ε W W') : Stp ε W' W' := ⟨.refl _ _, a.i⟩
theorem Stp.start {ε : Ef} {W : Wd} (a : ε.I W) : Stp ε W W := ⟨.refl _ _, a⟩
theorem Stp.trans {ε : Ef} {W W1 W2 : Wd} (a : Stp ε W W1) (b : Stp ε W1 W2) : Stp ε W W2 := ⟨a.md.trans b.md, b.i⟩
theorem Stp.and {ε : Ef} {W W1 W2 : Wd} (a : Stp ε W W1) (b : Grow W1 W2) : Stp ε W W2 := ⟨a.md.trans (Grow.s b), ε.grow _ _ b a.i⟩
theorem Stp.pure {W W' : Wd} (a : Stp pur W W') : Grow W W' := a.md
theorem Stp.of {W W' : Wd} (a : Grow W W') : Stp pur W W' := ⟨a, trivial⟩

/-! ### data -/
class Py (α : Type) where
  rep : Fg → Hp → V → α → Prop
  mono : ∀ {K : Fg} {H H' : Hp} {v : V} {x : α}, Ext H H' → rep K H v x → rep K H' v x
abbrev rep {α : Type} [Py α] (K : Fg) (H : Hp) (v : V) (x : α) : Prop := Py.rep K H v x
theorem rex {α : Type} [Py α] {K : Fg} {H H' : Hp} {v : V} {x : α} (e : Ex H H') (h : rep K H v x) : rep K H' v x := Py.mono (exExt e) h
instance : Py Int := ⟨fun _ _ v i => v = .int i, fun _ h => h⟩
instance : Py Bool := ⟨fun _ _ v b => v = .bl b, fun _ h => h⟩
instance : Py Str := ⟨fun _ _ v s => v = .str s, fun _ h => h⟩
instance : Py Unit := ⟨fun _ _ v _ => v = .non, fun _ h => h⟩
/-- any value by itself -/
structure Raw where
  v : V
instance : Py Raw := ⟨fun _ _ v x => v = x.v, fun _ h => h⟩
abbrev Reps {α : Type} [Py α] (K : Fg) (H : Hp) (vs : List V) (xs : List α) : Prop := Paired (rep K H) vs xs
theorem Reps.mono {α : Type} [Py α] {K : Fg} {H H' : Hp} (e : Ext H H') : ∀ {vs : List V} {xs : List α}, Reps K H vs xs → Reps K H' vs xs
  | _, _, .nil => .nil
  | _, _, .cons a b => .cons (Py.mono e a) (Reps.mono e b)
theorem Reps.len {α : Type} [Py α] {K : Fg} {H : Hp} {vs : List V} {xs : List α} (h : Reps K H vs xs) : vs.length = xs.length := Paired.length h
theorem Reps.get {α : Type} [Py α] {K : Fg} {H : Hp} : ∀ {vs : List V} {xs : List α}, Reps K H vs xs → ∀ {i : Nat} {v : V}, vs[i]? = some v → ∃ x, xs[i]? = some x ∧ rep K H v x
  | _, _, .nil, i, v, e => by simp at e
  | _, _, .cons a b, 0, v, e => by simp at e; subst e; exact ⟨_, rfl, a⟩
  | _, _, .cons a b, i + 1, v, e => by
    obtain ⟨x, h1, h2⟩ := Reps.get b (i := i) (v := v) (by simpa using e)
    exact ⟨x, by simpa using h1, h2⟩
theorem Reps.get' {α : Type} [Py α] {K : Fg} {H : Hp} : ∀ {vs : List V} {xs : List α}, Reps K H vs xs → ∀ {i : Nat} {x : α}, xs[i]? = some x → ∃ v, vs[i]? = some v ∧ rep K H v x
  | _, _, .nil, i, v, e => by simp at e
  | _, _, .cons a b, 0, v, e => by simp at e; subst e; exact ⟨_, rfl, a⟩
  | _, _, .cons a b, i + 1, v, e => by
    obtain ⟨x, h1, h2⟩ := Reps.get' b (i := i) (x := v) (by simpa using e)
    exact ⟨x, by simpa using h1, h2⟩
theorem Reps.snoc {α : Type} [Py α] {K : Fg} {H : Hp} {vs : List V} {xs : List α} {v : V} {x : α} (h : Reps K H vs xs) (r : rep K H v x) : Reps K H (vs ++ [v]) (xs ++ [x]) := Paired.snoc h r
theorem Reps.app {α : Type} [Py α] {K : Fg} {H : Hp} : ∀ {vs ws : List V} {xs ys : List α}, Reps K H vs xs → Reps K H ws ys → Reps K H (vs ++ ws) (xs ++ ys)
  | _, _, _, _, .nil, h => h
  | _, _, _, _, .cons a b, h => .cons a (Reps.app b h)
theorem Reps.rev {α : Type} [Py α] {K : Fg} {H : Hp} : ∀ {vs : List V} {xs : List α}, Reps K H vs xs → Reps K H vs.reverse xs.reverse
  | _, _, .nil => .nil
  | _, _, .cons a b => by simp only [List.reverse_cons]; exact Reps.snoc (Reps.rev b) a
theorem Reps.take {α : Type} [Py α] {K : Fg} {H : Hp} : ∀ (n : Nat) {vs : List V} {xs : List α}, Reps K H vs xs → Reps K H (vs.take n) (xs.take n)
  | 0, _, _, _ => .nil
  | n + 1, _, _, .nil => .nil
  | n + 1, _, _, .cons a b => .cons a (Reps.take n b)
theorem Reps.drop {α : Type} [Py α] {K : Fg} {H : Hp} : ∀ (n : Nat) {vs : List V} {xs : List α}, Reps K H vs xs → Reps K H (vs.drop n) (xs.drop n)
  | 0, _, _, h => h
  | n + 1, _, _, .nil => .nil
  | n + 1, _, _, .cons a b => Reps.drop n b
theorem Reps.set {α : Type} [Py α] {K : Fg} {H : Hp} {v : V} {x : α} (r : rep K H v x) : ∀ {vs : List V} {xs : List α} (i : Nat), Reps K H vs xs → Reps K H (vs.set i v) (xs.set i x)
  | _, _, _, .nil => .nil
  | _, _, 0, .cons a b => .cons r b
  | _, _, i + 1, .cons a b => .cons a (Reps.set r i b)
theorem reps_int {K : Fg} {H : Hp} : ∀ {vs : List V} {ns : List Int}, Reps K H vs ns → vs = ns.map V.int
  | _, _, .nil => rfl
  | _, _, .cons a b => by rw [show _ = _ from a, reps_int b]; rfl
theorem int_reps {K : Fg} {H : Hp} : ∀ (ns : List Int), Reps K H (ns.map V.int) ns
  | [] => .nil
  | _ :: r => .cons rfl (int_reps r)
theorem reps_str {K : Fg} {H : Hp} : ∀ {vs : List V} {ns : List Str}, Reps K H vs ns → vs = ns.map V.str
  | _, _, .nil => rfl
  | _, _, .cons a b => by rw [show _ = _ from a, reps_str b]; rfl
theorem str_reps {K : Fg} {H : Hp} : ∀ (ns : List Str), Reps K H (ns.map V.str) ns
  | [] => .nil
  | _ :: r => .cons rfl (str_reps r)
theorem reps_bl {K : Fg} {H : Hp} : ∀ {vs : List V} {ns : List Bool}, Reps K H vs ns → vs = ns.map V.bl
  | _, _, .nil => rfl
  | _, _, .cons a b => by rw [show _ = _ from a, reps_bl b]; rfl
theorem bl_reps {K : Fg} {H : Hp} : ∀ (ns : List Bool), Reps K H (ns.map V.bl) ns
  | [] => .nil
  | _ :: r => .cons rfl (bl_reps r)
instance {α : Type} [Py α] : Py (List α) := ⟨fun K H v xs => ∃ a vs, v = .ref a ∧ H a = some (.lst vs) ∧ Reps K H vs xs,
  fun e ⟨a, vs, h1, h2, h3⟩ => ⟨a, vs, h1, e.el h2, Reps.mono e h3⟩⟩
instance {α : Type} [Py α] : Py (Tup α) := ⟨fun K H v xs => ∃ a vs, v = .ref a ∧ H a = some (.tup vs) ∧ Reps K H vs xs.items,
  fun e ⟨a, vs, h1, h2, h3⟩ => ⟨a, vs, h1, e.et h2, Reps.mono e h3⟩⟩
instance {α β : Type} [Py α] [Py β] : Py (α × β) := ⟨fun K H v p => ∃ a x y, v = .ref a ∧ H a = some (.tup [x, y]) ∧ rep K H x p.1 ∧ rep K H y p.2,
  fun e ⟨a, x, y, h1, h2, h3, h4⟩ => ⟨a, x, y, h1, e.et h2, Py.mono e h3, Py.mono e h4⟩⟩
instance {α β γ : Type} [Py α] [Py β] [Py γ] : Py (T3 α β γ) := ⟨fun K H v p => ∃ a x y z, v = .ref a ∧ H a = some (.tup [x, y, z]) ∧ rep K H x p.a ∧ rep K H y p.b ∧ rep K H z p.c,
  fun e ⟨a, x, y, z, h1, h2, h3, h4, h5⟩ => ⟨a, x, y, z, h1, e.et h2, Py.mono e h3, Py.mono e h4, Py.mono e h5⟩⟩
instance {α β γ δ : Type} [Py α] [Py β] [Py γ] [Py δ] : Py (T4 α β γ δ) := ⟨fun K H v p => ∃ a x y z w, v = .ref a ∧ H a = some (.tup [x, y, z, w]) ∧ rep K H x p.a ∧ rep K H y p.b ∧ rep K H z p.c ∧ rep K H w p.d,
  fun e ⟨a, x, y, z, w, h1, h2, h3, h4, h5, h6⟩ => ⟨a, x, y, z, w, h1, e.et h2, Py.mono e h3, Py.mono e h4, Py.mono e h5, Py.mono e h6⟩⟩
instance {α : Type} [Py α] : Py (Option α) := ⟨fun K H v o => match o with | none => v = .non | some x => rep K H v x,
  fun {_ _ _ _ o} e h => match o, h with | none, h => h | some _, h => Py.mono e h⟩
class PyKey (κ : Type) where
  key : κ → Key
  inj : ∀ {a b : κ}, key a = key b → a = b
instance : PyKey Int := ⟨.inl, fun h => Sum.inl.inj h⟩
instance : PyKey Str := ⟨.inr, fun h => Sum.inr.inj h⟩
structure Dict (κ α : Type) where
  kv : List (κ × α)
abbrev KReps {κ α : Type} [PyKey κ] [Py α] (K : Fg) (H : Hp) (ks : List (Key × V)) (xs : List (κ × α)) : Prop := Paired (fun p q => p.1 = PyKey.key q.1 ∧ rep K H p.2 q.2) ks xs
theorem KReps.mono {κ α : Type} [PyKey κ] [Py α] {K : Fg} {H H' : Hp} (e : Ext H H') : ∀ {vs : List (Key × V)} {xs : List (κ × α)}, KReps K H vs xs → KReps K H' vs xs
  | _, _, .nil => .nil
  | _, _, .cons a b => .cons ⟨a.1, Py.mono e a.2⟩ (KReps.mono e b)
theorem KReps.len {κ α : Type} [PyKey κ] [Py α] {K : Fg} {H : Hp} {vs : List (Key × V)} {xs : List (κ × α)} (h : KReps K H vs xs) : vs.length = xs.length := Paired.length h
theorem KReps.get {κ α : Type} [PyKey κ] [Py α] {K : Fg} {H : Hp} : ∀ {vs : List (Key × V)} {xs : List (κ × α)}, KReps K H vs xs → ∀ {i : Nat} {k : Key} {v : V}, vs[i]? = some (k, v) → ∃ q, xs[i]? = some q ∧ k = PyKey.key q.1 ∧ rep K H v q.2
  | _, _, .nil, i, k, v, e => by simp at e
  | _, _, .cons a b, 0, k, v, e => by simp at e; subst e; exact ⟨_, rfl, a⟩
  | _, _, .cons a b, i + 1, k, v, e => by
    obtain ⟨x, h1, h2⟩ := KReps.get b (i := i) (k := k) (v := v) (by simpa using e)
    exact ⟨x, by simpa using h1, h2⟩
instance {κ α : Type} [PyKey κ] [Py α] : Py (Dict κ α) := ⟨fun K H v d => ∃ a ks, v = .ref a ∧ Rd H a (.dK ks) ∧ KReps K H ks d.kv,
  fun e ⟨a, vs, h1, h2, h3⟩ => ⟨a, vs, h1, e.rd h2, KReps.mono e h3⟩⟩
theorem key_rep {κ : Type} [PyKey κ] [Py κ] (K : Fg) (H : Hp) (h : ∀ k : κ, rep K H (kV (PyKey.key k)) k) (k : κ) : rep K H (kV (PyKey.key k)) k := h k
class PyKV (κ : Type) extends PyKey κ, Py κ where
  krep : ∀ (K : Fg) (H : Hp) (k : κ), Py.rep K H (kV (key k)) k
  keyv : ∀ {K : Fg} {H : Hp} {v : V} {k : κ}, Py.rep K H v k → v = kV (key k)
instance : PyKV Int := { krep := fun _ _ _ => rfl, keyv := fun h => h }
instance : PyKV Str := { krep := fun _ _ _ => rfl, keyv := fun h => h }
/-! ### data that == tells apart -/
class PyD (α : Type) [DecidableEq α] [Datum α] [Py α] : Prop where
  dp : ∀ {K : Fg} {H : Hp} {v : V} {x : α}, rep K H v x → Dp K H v (Datum.toD x)
theorem reps_dp {α : Type} [DecidableEq α] [Datum α] [Py α] [PyD α] {K : Fg} {H : Hp} : ∀ {vs : List V} {xs : List α}, Reps K H vs xs → DpAll K H vs (xs.map Datum.toD)
  | _, _, .nil => .nil
  | _, _, .cons a b => .cons (PyD.dp a) (reps_dp b)
instance : PyD Int := ⟨fun {K H v x} h => by rw [show v = _ from h]; exact .int x⟩
instance : PyD Bool := ⟨fun {K H v x} h => by rw [show v = _ from h]; exact .bl x⟩
instance : PyD Str := ⟨fun {K H v x} h => by rw [show v = _ from h]; exact .str x⟩
instance : PyD Unit := ⟨fun {K H v x} h => by rw [show v = _ from h]; exact .non⟩
section
variable {α β γ δ : Type} [DecidableEq α] [Datum α] [Py α] [PyD α] [DecidableEq β] [Datum β] [Py β] [PyD β] [DecidableEq γ] [Datum γ] [Py γ] [PyD γ] [DecidableEq δ] [Datum δ] [Py δ] [PyD δ]
instance : PyD (List α) := ⟨fun ⟨a, vs, e, h, r⟩ => by rw [e]; exact .lst (SqL.of h) (reps_dp r)⟩
instance : PyD (Tup α) := ⟨fun ⟨a, vs, e, h, r⟩ => by rw [e]; exact .tup (SqT.of h) (reps_dp r)⟩
instance : PyD (α × β) := ⟨fun ⟨a, x, y, e, h, r1, r2⟩ => by rw [e]; exact .tup (SqT.of h) (.cons (PyD.dp r1) (.cons (PyD.dp r2) .nil))⟩
instance : PyD (T3 α β γ) := ⟨fun ⟨a, x, y, z, e, h, r1, r2, r3⟩ => by rw [e]; exact .tup (SqT.of h) (.cons (PyD.dp r1) (.cons (PyD.dp r2) (.cons (PyD.dp r3) .nil)))⟩
instance : PyD (T4 α β γ δ) := ⟨fun ⟨a, x, y, z, w, e, h, r1, r2, r3, r4⟩ => by rw [e]; exact .tup (SqT.of h) (.cons (PyD.dp r1) (.cons (PyD.dp r2) (.cons (PyD.dp r3) (.cons (PyD.dp r4) .nil))))⟩
end
theorem holds_of {X : Cx} {pins : List (Addr × Obj)} {σ : SS} {H : Hp} {s : Shared} {α : Type} [DecidableEq α] [Datum α] {v : V} {u : Value} {x : α} (I : Inv X pins σ H s) (h : Dp X.K H v (Datum.toD x)) (r : RelV v u) : PySem.W.Holds s.heap u x := Dp.reads I _ v u h r
/-- == of two such of one type -/
def rEqT (K : Fg) (neg : Bool) : R2 := fun x y H Q => ∃ (α : Type) (_ : DecidableEq α) (_ : Datum α) (a b : α), Dp K H x (Datum.toD a) ∧ Dp K H y (Datum.toD b) ∧ Datum.depth α ≤ 60 ∧ Q (.bl (if neg then !decide (a = b) else decide (a = b))) H
def rLtT (K : Fg) : R2 := fun x y H Q => ∃ (α : Type) (_ : DecidableEq α) (_ : DatumOrd α) (a b : α), Dp K H x (Datum.toD a) ∧ Dp K H y (Datum.toD b) ∧ Datum.depth α ≤ 60 ∧ Q (.bl (DatumOrd.lt a b)) H
def rInTL (K : Fg) (neg : Bool) : R2 := fun x y H Q => ∃ (α : Type) (_ : DecidableEq α) (_ : Datum α) (a : α) (b : List α), Dp K H x (Datum.toD a) ∧ Dp K H y (Datum.toD b) ∧ Datum.depth α ≤ 60 ∧ Q (.bl (if neg then !decide (a ∈ b) else decide (a ∈ b))) H
def rInTT (K : Fg) (neg : Bool) : R2 := fun x y H Q => ∃ (α : Type) (_ : DecidableEq α) (_ : Datum α) (a : α) (b : Tup α), Dp K H x (Datum.toD a) ∧ Dp K H y (Datum.toD b) ∧ Datum.depth α ≤ 60 ∧ Q (.bl (if neg then !decide (a ∈ b.items) else decide (a ∈ b.items))) H
section
variable {X : Cx}
theorem op_eqT (hu : X.A.units + 64 < cLine) : OpR X (compareOp .Eq) (rEqT X.K false) := by
  intro pins s σ H x y v u Q I rx ry h
  obtain ⟨α, _, _, a, b, ha, hb, hd, q⟩ := h
  exact PySem.W.eq_datum (holds_of I ha rx) (holds_of I hb ry) (by omega) ⟨.bl _, H, I, rfl, q⟩
theorem op_neT (hu : X.A.units + 64 < cLine) : OpR X (compareOp .NotEq) (rEqT X.K true) := by
  intro pins s σ H x y v u Q I rx ry h
  obtain ⟨α, _, _, a, b, ha, hb, hd, q⟩ := h
  refine PySem.W.ne_datum (holds_of I ha rx) (holds_of I hb ry) (by omega) ⟨.bl _, H, I, ?_, q⟩
  show Value.bool _ = Value.bool _
  simp
theorem op_ltTT (hu : X.A.units + 64 < cLine) : OpR X (compareOp .Lt) (rLtT X.K) := by
  intro pins s σ H x y v u Q I rx ry h
  obtain ⟨α, _, _, a, b, ha, hb, hd, q⟩ := h
  exact PySem.W.lt_datum (holds_of I ha rx) (holds_of I hb ry) (by omega) ⟨.bl _, H, I, rfl, q⟩
theorem op_inTL (hu : X.A.units + 64 < cLine) : OpR X (compareOp .In) (rInTL X.K false) := by
  intro pins s σ H x y v u Q I rx ry h
  obtain ⟨α, _, _, a, b, ha, hb, hd, q⟩ := h
  obtain ⟨l, vs, rfl, hl, H2⟩ := PySem.W.list_of_holds (holds_of I hb ry)
  exact PySem.W.in_list_datum hl H2 (holds_of I ha rx) (by omega) ⟨.bl _, H, I, rfl, q⟩
theorem op_notInTL (hu : X.A.units + 64 < cLine) : OpR X (compareOp .NotIn) (rInTL X.K true) := by
  intro pins s σ H x y v u Q I rx ry h
  obtain ⟨α, _, _, a, b, ha, hb, hd, q⟩ := h
  obtain ⟨l, vs, rfl, hl, H2⟩ := PySem.W.list_of_holds (holds_of I hb ry)
  refine PySem.W.notIn_list_datum hl H2 (holds_of I ha rx) (by omega) ⟨.bl _, H, I, ?_, q⟩
  show Value.bool _ = Value.bool _
  simp
theorem op_inTT (hu : X.A.units + 64 < cLine) : OpR X (compareOp .In) (rInTT X.K false) := by
  intro pins s σ H x y v u Q I rx ry h
  obtain ⟨α, _, _, a, b, ha, hb, hd, q⟩ := h
  obtain ⟨l, vs, rfl, hl, H2⟩ := PySem.W.tup_of_holds (holds_of I hb ry)
  exact PySem.W.in_tuple_datum hl H2 (holds_of I ha rx) (by omega) ⟨.bl _, H, I, rfl, q⟩
theorem op_notInTT (hu : X.A.units + 64 < cLine) : OpR X (compareOp .NotIn) (rInTT X.K true) := by
  intro pins s σ H x y v u Q I rx ry h
  obtain ⟨α, _, _, a, b, ha, hb, hd, q⟩ := h
  obtain ⟨l, vs, rfl, hl, H2⟩ := PySem.W.tup_of_holds (holds_of I hb ry)
  refine PySem.W.notIn_tuple_datum hl H2 (holds_of I ha rx) (by omega) ⟨.bl _, H, I, ?_, q⟩
  show Value.bool _ = Value.bool _
  simp
end
end B
/-! B: what a reading evaluates to in a world -/
namespace B
open PySem L2
open Evl (Ex)
open PySem.W (Tup T3 T4 Datum DatumOrd)

/-- later: what stays is as it was, and no more of it is locked -/
structure On (W W' : Wd) : Prop where
  b : Ex W.B W'.B
  l : ∀ a o, W.B a = some o → W.H a = some o → W'.H a = some o
theorem On.refl (W : Wd) : On W W := ⟨Evl.Ex.refl _, fun _ _ _ h => h⟩
theorem On.trans {W W1 W2 : Wd} (x : On W W1) (y : On W1 W2) : On W W2 := ⟨x.b.trans y.b, fun a o h1 h2 => y.l a o (x.b a o h1) (x.l a o h1 h2)⟩
theorem Md.on {S : List Addr} {W W' : Wd} (g : Md S W W') : On W W' := ⟨g.b, g.l⟩
theorem Stp.on {ε : Ef} {W W' : Wd} (g : Stp ε W W') : On W W' := g.md.on

section
variable {α β γ : Type} [Py α] [Py β] [Py γ] {K : Fg} {σ : SS} {W W' : Wd} {v : V} {x : α} {ε : Ef} {S : List Addr}
theorem rep_g (g : Md S W W') (h : rep K W.B v x) : rep K W'.B v x := rex g.b h
theorem rep_s (g : Stp ε W W') (h : rep K W.B v x) : rep K W'.B v x := rex g.md.b h
theorem rep_on (g : On W W') (h : rep K W.B v x) : rep K W'.B v x := rex g.b h
theorem rep_h (h : rep K W.B v x) : rep K W.H v x := Py.mono W.sub h
end
/-- an unlocked dict that stays -/
def DictAt {κ α : Type} [PyKey κ] [Py α] (K : Fg) (W : Wd) (v : V) (d : Dict κ α) : Prop :=
  ∃ a ks, v = .ref a ∧ W.B a = some (.dK ks) ∧ W.H a = some (.dK ks) ∧ KReps K W.B ks d.kv
section
variable {κ α : Type} [PyKey κ] [Py α] {K : Fg} {W W' : Wd} {v : V} {d : Dict κ α} {ε : Ef} {S : List Addr}
theorem DictAt.rep (h : DictAt K W v d) : rep K W.B v d := by
  obtain ⟨a, ks, h1, h2, h3, h4⟩ := h
  exact ⟨a, ks, h1, .inl h2, h4⟩
theorem DictAt.on (g : On W W') (h : DictAt K W v d) : DictAt K W' v d := by
  obtain ⟨a, ks, h1, h2, h3, h4⟩ := h
  exact ⟨a, ks, h1, g.b _ _ h2, g.l _ _ h2 h3, KReps.mono (exExt g.b) h4⟩
theorem DictAt.g (g : Md S W W') (h : DictAt K W v d) : DictAt K W' v d := h.on g.on
theorem DictAt.s (g : Stp ε W W') (h : DictAt K W v d) : DictAt K W' v d := h.on g.on
end

theorem nodup_le {α : Type} [DecidableEq α] : ∀ {l m : List α}, l.Nodup → (∀ x ∈ l, x ∈ m) → l.length ≤ m.length
  | [], _, _, _ => Nat.zero_le _
  | x :: l, m, n, h => by
    rw [List.nodup_cons] at n
    have hx := h x List.mem_cons_self
    have := nodup_le (m := m.erase x) n.2 fun y hy => (List.mem_erase_of_ne (fun (e : y = x) => n.1 (e ▸ hy))).mpr (h y (List.mem_cons_of_mem _ hy))
    rw [List.length_erase_of_mem hx] at this
    have : 0 < m.length := List.length_pos_of_mem hx
    rw [List.length_cons]
    omega
/-! tables -/
section
variable {κ α : Type} [DecidableEq κ]
def klook (kv : List (κ × α)) (k : κ) : Option α := (kv.find? fun q => decide (q.1 = k)).map (·.2)
def kput (kv : List (κ × α)) (k : κ) (v : α) : List (κ × α) := if (kv.any fun q => decide (q.1 = k)) = true then kv.map (fun q => if q.1 = k then (q.1, v) else q) else kv ++ [(k, v)]
def kdrop (kv : List (κ × α)) (k : κ) : List (κ × α) := kv.filter fun q => decide (q.1 ≠ k)
theorem klook_nil {k : κ} : klook ([] : List (κ × α)) k = none := rfl
theorem klook_cons {q : κ × α} {kv : List (κ × α)} {k : κ} : klook (q :: kv) k = if q.1 = k then some q.2 else klook kv k := by
  unfold klook
  rw [List.find?_cons]
  by_cases h : q.1 = k
  · simp [h]
  · simp [h]
theorem klook_none {k : κ} : ∀ {kv : List (κ × α)}, klook kv k = none ↔ k ∉ kv.map (·.1)
  | [] => by simp [klook_nil]
  | q :: kv => by
    rw [klook_cons]
    by_cases h : q.1 = k
    · simp [h]
    · rw [if_neg h, klook_none, List.map_cons, List.mem_cons, not_or]
      exact ⟨fun z => ⟨fun e => h e.symm, z⟩, fun z => z.2⟩
theorem klook_mem {k : κ} {v : α} : ∀ {kv : List (κ × α)}, klook kv k = some v → (k, v) ∈ kv
  | [], h => by simp [klook_nil] at h
  | q :: kv, h => by
    rw [klook_cons] at h
    by_cases e : q.1 = k
    · rw [if_pos e] at h
      have : q = (k, v) := Prod.ext e (Option.some.inj h)
      rw [this]; exact List.mem_cons_self
    · rw [if_neg e] at h; exact List.mem_cons_of_mem _ (klook_mem h)
theorem klook_of_mem {k : κ} {v : α} : ∀ {kv : List (κ × α)}, (kv.map (·.1)).Nodup → (k, v) ∈ kv → klook kv k = some v
  | [], _, h => by simp at h
  | q :: kv, n, h => by
    rw [List.map_cons, List.nodup_cons] at n
    rw [klook_cons]
    rcases List.mem_cons.mp h with e | h
    · rw [← e]; simp
    · have : q.1 ≠ k := fun z => n.1 (List.mem_map.mpr ⟨(k, v), h, z.symm⟩)
      rw [if_neg this]; exact klook_of_mem n.2 h
theorem kput_mem {kv : List (κ × α)} {k : κ} {v : α} {q : κ × α} (h : q ∈ kput kv k v) : q ∈ kv ∨ q = (k, v) := by
  unfold kput at h
  split at h
  · obtain ⟨q', h1, h2⟩ := List.mem_map.mp h
    by_cases e : q'.1 = k
    · rw [if_pos e] at h2; exact .inr (by rw [← h2, e])
    · rw [if_neg e] at h2; exact .inl (h2 ▸ h1)
  · rcases List.mem_append.mp h with h | h
    · exact .inl h
    · exact .inr (by simpa using h)
theorem kput_keys_nodup {kv : List (κ × α)} {k : κ} {v : α} (n : (kv.map (·.1)).Nodup) : ((kput kv k v).map (·.1)).Nodup := by
  unfold kput
  split
  · have : (kv.map (fun q => if q.1 = k then (q.1, v) else q)).map (·.1) = kv.map (·.1) := by
      rw [List.map_map]
      refine List.map_congr_left fun q _ => ?_
      show (if q.1 = k then (q.1, v) else q).1 = q.1
      split <;> rfl
    rw [this]; exact n
  · rename_i h
    rw [List.map_append, List.map_cons, List.map_nil, List.nodup_append]
    refine ⟨n, by simp, fun a ha b hb => ?_⟩
    have e : b = k := by simpa using hb
    subst e
    intro z
    subst z
    obtain ⟨q, h1, h2⟩ := List.mem_map.mp ha
    exact h (List.any_eq_true.mpr ⟨q, h1, by simp [h2]⟩)
theorem kput_len (kv : List (κ × α)) (k : κ) (v : α) : (kput kv k v).length ≤ kv.length + 1 := by
  unfold kput
  split <;> simp
theorem klook_put (kv : List (κ × α)) (k j : κ) (v : α) : klook (kput kv k v) j = if j = k then some v else klook kv j := by
  unfold kput
  by_cases h : (kv.any fun q => decide (q.1 = k)) = true
  · rw [if_pos h]
    have main : ∀ kv : List (κ × α), klook (kv.map (fun q => if q.1 = k then (q.1, v) else q)) j = if j = k then (if k ∈ kv.map (·.1) then some v else none) else klook kv j := by
      intro kv
      induction kv with
      | nil => simp [klook_nil]
      | cons q kv ih =>
        rw [List.map_cons, klook_cons, ih, klook_cons, List.map_cons]
        by_cases e : q.1 = k
        · rw [if_pos e]
          by_cases e2 : j = k
          · subst e2; simp [e]
          · have : ¬ q.1 = j := fun z => e2 (z.symm.trans e)
            simp [e2, this]
        · rw [if_neg e]
          by_cases e2 : j = k
          · subst e2
            have : ¬ j = q.1 := fun z => e z.symm
            rw [if_neg e, if_pos rfl, if_pos rfl]
            by_cases hm : j ∈ kv.map (·.1)
            · rw [if_pos hm, if_pos (List.mem_cons_of_mem _ hm)]
            · rw [if_neg hm, if_neg (fun z => (List.mem_cons.mp z).elim this hm)]
          · simp [e2]
    rw [main]
    obtain ⟨q, h1, h2⟩ := List.any_eq_true.mp h
    have : k ∈ kv.map (·.1) := List.mem_map.mpr ⟨q, h1, of_decide_eq_true h2⟩
    rw [if_pos this]
  · rw [if_neg h]
    have hk : k ∉ kv.map (·.1) := fun z => by
      obtain ⟨q, h1, h2⟩ := List.mem_map.mp z
      exact h (List.any_eq_true.mpr ⟨q, h1, by simp [h2]⟩)
    clear h
    induction kv with
    | nil =>
      rw [List.nil_append, klook_cons, klook_nil]
      by_cases e : j = k
      · simp [e]
      · have : ¬ k = j := fun z => e z.symm
        simp [e, this]
    | cons q kv ih =>
      rw [List.map_cons, List.mem_cons, not_or] at hk
      rw [List.cons_append, klook_cons, ih hk.2, klook_cons]
      by_cases e : q.1 = j
      · have : ¬ j = k := fun z => hk.1 (z.symm.trans e.symm)
        simp [e, this]
      · simp [e]
end
section
variable {κ α : Type} [DecidableEq κ] [PyKey κ] [Py α] {K : Fg} {H : Hp} {ks : List (Key × V)} {kv : List (κ × α)}
theorem key_eq {a b : κ} : (PyKey.key a : Key) = PyKey.key b ↔ a = b := ⟨fun h => PyKey.inj h, fun h => by rw [h]⟩
theorem KReps.any (r : KReps K H ks kv) (k : κ) : (ks.any fun q => decide (q.1 = PyKey.key k)) = kv.any fun q => decide (q.1 = k) := by
  induction r with
  | nil => rfl
  | cons a b ih =>
    rw [List.any_cons, List.any_cons, ih, a.1]
    congr 1
    exact decide_eq_decide.mpr key_eq
theorem KReps.put {v : V} {x : α} (r : KReps K H ks kv) (k : κ) (rv : rep K H v x) : KReps K H (putK ks (PyKey.key k) v) (kput kv k x) := by
  unfold putK kput
  rw [r.any k]
  split
  · rename_i hx
    clear hx
    induction r with
    | nil => exact .nil
    | @cons a b l1 l2 h t ih =>
      rw [List.map_cons, List.map_cons]
      refine .cons ?_ ih
      by_cases e : b.1 = k
      · have : a.1 = PyKey.key k := by rw [h.1, e]
        rw [if_pos e, if_pos this]
        exact ⟨h.1, rv⟩
      · have : ¬ a.1 = PyKey.key k := fun z => e (PyKey.inj (h.1.symm.trans z))
        rw [if_neg e, if_neg this]
        exact h
  · exact Paired.snoc r ⟨rfl, rv⟩
theorem KReps.none (r : KReps K H ks kv) {k : κ} (h : klook kv k = none) : valV ks (PyKey.key k) = none := by
  induction r with
  | nil => rfl
  | @cons a b l1 l2 hh t ih =>
    rw [klook_cons] at h
    by_cases e : b.1 = k
    · rw [if_pos e] at h; cases h
    · rw [if_neg e] at h
      rw [valV_neg (fun z => e (PyKey.inj (hh.1.symm.trans z)))]
      exact ih h
theorem KReps.some (r : KReps K H ks kv) {k : κ} {x : α} (h : klook kv k = some x) : ∃ v, valV ks (PyKey.key k) = some v ∧ rep K H v x := by
  induction r with
  | nil => simp [klook_nil] at h
  | @cons a b l1 l2 hh t ih =>
    rw [klook_cons] at h
    by_cases e : b.1 = k
    · rw [if_pos e] at h
      cases h
      exact ⟨a.2, valV_pos (by rw [hh.1, e]), hh.2⟩
    · rw [if_neg e] at h
      obtain ⟨v, h1, h2⟩ := ih h
      exact ⟨v, by rw [valV_neg (fun z => e (PyKey.inj (hh.1.symm.trans z)))]; exact h1, h2⟩
theorem KReps.drop (r : KReps K H ks kv) (k : κ) : KReps K H (dropK ks (PyKey.key k)) (kdrop kv k) := by
  unfold dropK kdrop
  induction r with
  | nil => exact .nil
  | @cons a b l1 l2 hh t ih =>
    rw [List.filter_cons, List.filter_cons]
    by_cases e : b.1 = k
    · have : a.1 = PyKey.key k := by rw [hh.1, e]
      simp only [e, this, ne_eq, not_true_eq_false, decide_false, Bool.false_eq_true, if_false]
      exact ih
    · have : ¬ a.1 = PyKey.key k := fun z => e (PyKey.inj (hh.1.symm.trans z))
      simp only [e, this, ne_eq, not_false_eq_true, decide_true, if_true]
      exact .cons hh ih
end
/-- what stands at p shall stay -/
def Wd.fix (W : Wd) (p : Addr) (o : HO) (h : W.H p = some o) : Wd := ⟨upd W.B p o, W.H, fun a u e => by
  by_cases q : a = p
  · subst q; rw [upd_same] at e; cases e; exact .inl h
  · rw [upd_ne q] at e; exact W.sub a u e⟩
theorem md_fix {S : List Addr} {W W' : Wd} (g : Md S W W') {p : Addr} {o : HO} (h : W'.H p = some o) (n : W'.B p = none) (f : W.H p = none) : Md S W (W'.fix p o h) := by
  refine ⟨fun a u e => ?_, fun a u e1 e2 => g.l a u e1 e2, g.o, fun a ha => ?_, g.d, g.n⟩
  · have q : a ≠ p := fun z => by rw [z] at e; rw [W.free f] at e; cases e
    show upd W'.B p o a = some u
    rw [upd_ne q]; exact g.b a u e
  · have q : a ≠ p := fun z => ha.ne (by rw [z]; exact f)
    show upd W'.B p o a = W.B a
    rw [upd_ne q]; exact g.m a ha
theorem ex_fix {W : Wd} {p : Addr} {o : HO} (h : W.H p = some o) (n : W.B p = none) : Ex W.B (W.fix p o h).B := fun a u e => by
  have q : a ≠ p := fun z => by rw [z, n] at e; cases e
  show upd W.B p o a = some u
  rw [upd_ne q]; exact e
theorem md_mut {S : List Addr} {W W' : Wd} (g : Md S W W') {p : Addr} {o : HO} (n : W'.B p = none) (f : W.H p = none) : Md S W (W'.put p o n) := by
  refine ⟨g.b, fun a u e1 e2 => ?_, fun a u e1 e2 => ?_, g.m, fun a ha => ?_, fun a ha => ?_⟩
  · have q : a ≠ p := fun z => by rw [z, f] at e2; cases e2
    show upd W'.H p o a = some u
    rw [upd_ne q]; exact g.l a u e1 e2
  · have q : a ≠ p := fun z => by rw [z, f] at e2; cases e2
    show upd W'.H p o a = some u
    rw [upd_ne q]; exact g.o a u e1 e2
  · show upd W'.H p o a ≠ none
    by_cases q : a = p
    · rw [q, upd_same]; exact fun z => by cases z
    · rw [upd_ne q]; exact g.d a ha
  · have q : a ≠ p := fun z => ha.ne (by rw [z]; exact f)
    obtain ⟨u, e, hu⟩ := g.n a ha
    exact ⟨u, (upd_ne q).trans e, hu⟩
/-- what I tells stays where only p, which is none of S, changes -/
theorem i_put {ε : Ef} {W : Wd} {p : Addr} {o : HO} (hS : p ∉ ε.S) (i : ε.I W) (n : W.B p = none) : ε.I (W.put p o n) :=
  ε.mv W _ (Evl.Ex.refl _) (fun a h1 _ => ⟨upd_ne fun e => hS (e ▸ h1), rfl⟩) i
theorem i_fix {ε : Ef} {W : Wd} {p : Addr} {o : HO} (hS : p ∉ ε.S) (i : ε.I W) (h : W.H p = some o) (n : W.B p = none) : ε.I (W.fix p o h) :=
  ε.mv W _ (ex_fix h n) (fun a h1 _ => ⟨rfl, upd_ne fun e => hS (e ▸ h1)⟩) i


/-! ### expressions -/
/-- a value of which P is known -/
def EvP (ε : Ef) (te : TE) (σ : SS) (W : Wd) (P : V → Wd → Prop) : Prop := ∀ W1, Stp ε W W1 → ∀ Q : VK, (∀ v W2, Stp ε W1 W2 → P v W2 → Q v W2.H) → te σ W1.H Q
def EvR {α : Type} [Py α] (ε : Ef) (K : Fg) (te : TE) (σ : SS) (W : Wd) (x : α) : Prop :=
  ∀ W1, Stp ε W W1 → ∀ Q : VK, (∀ v W2, Stp ε W1 W2 → rep K W2.B v x → Q v W2.H) → te σ W1.H Q
/-- a dict that is not locked -/
def EvD {κ α : Type} [PyKey κ] [Py α] (ε : Ef) (K : Fg) (te : TE) (σ : SS) (W : Wd) (d : Dict κ α) : Prop :=
  ∀ W1, Stp ε W W1 → ∀ Q : VK, (∀ v W2, Stp ε W1 W2 → DictAt K W2 v d → Q v W2.H) → te σ W1.H Q
def EvT (ε : Ef) (tt : TT) (σ : SS) (W : Wd) (b : Bool) : Prop :=
  ∀ W1, Stp ε W W1 → ∀ Q : Bool → Hp → Prop, (∀ W2, Stp ε W1 W2 → Q b W2.H) → tt σ W1.H Q
def EvAs {α : Type} [Py α] (ε : Ef) (K : Fg) (ta : TA) (σ : SS) (W : Wd) (xs : List α) : Prop :=
  ∀ W1, Stp ε W W1 → ∀ Q : List V → Hp → Prop, (∀ vs W2, Stp ε W1 W2 → Reps K W2.B vs xs → Q vs W2.H) → ta σ W1.H Q
def EvO (ε : Ef) (to : TO) (σ : SS) (W : Wd) (o : Option Int) : Prop := ∀ W1, Stp ε W W1 → ∀ Q : Option Int → Hp → Prop, (∀ W2, Stp ε W1 W2 → Q o W2.H) → to σ W1.H Q
/-- an operation on values, at any later world -/
def RO {α β γ : Type} [Py α] [Py β] [Py γ] (K : Fg) (r : R2) (x : α) (y : β) (z : γ) : Prop :=
  ∀ v u W1, rep K W1.B v x → rep K W1.B u y → ∀ Q : VK, (∀ w W2, Grow W1 W2 → rep K W2.B w z → Q w W2.H) → r v u W1.H Q
def RU {α β : Type} [Py α] [Py β] (K : Fg) (r : V → Hp → VK → Prop) (x : α) (y : β) : Prop :=
  ∀ v W1, rep K W1.B v x → ∀ Q : VK, (∀ w W2, Grow W1 W2 → rep K W2.B w y → Q w W2.H) → r v W1.H Q
def RC1 {α β : Type} [Py α] [Py β] (K : Fg) (r : List V → Hp → VK → Prop) (x : α) (y : β) : Prop :=
  ∀ v W1, rep K W1.B v x → ∀ Q : VK, (∀ w W2, Grow W1 W2 → rep K W2.B w y → Q w W2.H) → r [v] W1.H Q
def RC2 {α β γ : Type} [Py α] [Py β] [Py γ] (K : Fg) (r : List V → Hp → VK → Prop) (x : α) (y : β) (z : γ) : Prop :=
  ∀ v u W1, rep K W1.B v x → rep K W1.B u y → ∀ Q : VK, (∀ w W2, Grow W1 W2 → rep K W2.B w z → Q w W2.H) → r [v, u] W1.H Q
section
variable {α β γ : Type} [Py α] [Py β] [Py γ] {K : Fg} {σ : SS} {W W' : Wd} {v : V} {x : α} {y : β} {z : γ} {ta tb te : TE} {r : R2} {t u : TT} {ε : Ef}
theorem EvR.p (h : EvR ε K te σ W x) : EvP ε te σ W (fun v W => rep K W.B v x) := h
theorem EvP.toR (h : EvP ε te σ W (fun v W => rep K W.B v x)) : EvR ε K te σ W x := h
theorem EvR.s (g : Stp ε W W') (h : EvR ε K te σ W x) : EvR ε K te σ W' x := fun W1 g1 => h W1 (g.trans g1)
theorem EvT.s {b : Bool} (g : Stp ε W W') (h : EvT ε t σ W b) : EvT ε t σ W' b := fun W1 g1 => h W1 (g.trans g1)
theorem EvR.is {x' : α} (h : EvR ε K te σ W x) (e : x = x') : EvR ε K te σ W x' := e ▸ h
theorem EvT.is {b b' : Bool} (h : EvT ε t σ W b) (e : b = b') : EvT ε t σ W b' := e ▸ h
theorem EvD.rep {κ : Type} [PyKey κ] {d : Dict κ α} (h : EvD ε K te σ W d) : EvR ε K te σ W d := fun W1 g1 Q k => h W1 g1 Q fun v W2 g2 r => k v W2 g2 r.rep
/-- what leaves the heap as it is, whatever the effect around -/
theorem ev_pure (h : ∀ W1, On W W1 → EvR pur K te σ W1 x) : EvR ε K te σ W x := fun W1 g1 Q k => h W1 g1.on W1 (.start trivial) Q fun v W2 g2 r => k v W2 (g1.rf.and g2.pure) r
theorem ev_pureD {κ : Type} [PyKey κ] {d : Dict κ α} (h : ∀ W1, On W W1 → EvD pur K te σ W1 d) : EvD ε K te σ W d := fun W1 g1 Q k => h W1 g1.on W1 (.start trivial) Q fun v W2 g2 r => k v W2 (g1.rf.and g2.pure) r
theorem et_pure {b : Bool} (h : ∀ W1, On W W1 → EvT pur t σ W1 b) : EvT ε t σ W b := fun W1 g1 Q k => h W1 g1.on W1 (.start trivial) Q fun W2 g2 => k W2 (g1.rf.and g2.pure)
theorem ev_var {i : Nat} (h : σ[i]? = some (some v)) (r : rep K W.B v x) : EvR ε K (tVar i) σ W x := fun W1 g1 Q k => ⟨v, h, k v W1 g1.rf (rep_s g1 r)⟩
theorem ev_dvar {κ : Type} [PyKey κ] {d : Dict κ α} {i : Nat} (h : σ[i]? = some (some v)) (r : DictAt K W v d) : EvD ε K (tVar i) σ W d := fun W1 g1 Q k => ⟨v, h, k v W1 g1.rf (r.s g1)⟩
theorem ev_int {n : Int} : EvR ε K (tC (.int n)) σ W n := fun W1 g1 Q k => k _ W1 g1.rf rfl
theorem ev_bl {n : Bool} : EvR ε K (tC (.bl n)) σ W n := fun W1 g1 Q k => k _ W1 g1.rf rfl
theorem ev_str {n : Str} : EvR ε K (tC (.str n)) σ W n := fun W1 g1 Q k => k _ W1 g1.rf rfl
theorem ev_non : EvR ε K (tC .non) σ W () := fun W1 g1 Q k => k _ W1 g1.rf rfl
theorem ev_raw {n : V} : EvR ε K (tC n) σ W (Raw.mk n) := fun W1 g1 Q k => k _ W1 g1.rf rfl
theorem ev_rvar {i : Nat} (h : σ[i]? = some (some v)) : EvR ε K (tVar i) σ W (Raw.mk v) := fun W1 g1 Q k => ⟨v, h, k v W1 g1.rf rfl⟩
theorem ev_op (ha : EvR ε K ta σ W x) (hb : EvR ε K tb σ W y) (hr : RO K r x y z) : EvR ε K (tOp r ta tb) σ W z := fun W1 g1 Q k =>
  ha W1 g1 _ fun a W2 g2 ra => hb W2 (g1.trans g2) _ fun b W3 g3 rb => hr a b W3 (rep_s g3 ra) rb Q fun w W4 g4 rw' => k w W4 ((g2.trans g3).and g4) rw'
theorem ev_un {r : V → Hp → VK → Prop} (ha : EvR ε K ta σ W x) (hr : RU K r x y) : EvR ε K (tUn r ta) σ W y := fun W1 g1 Q k =>
  ha W1 g1 _ fun a W2 g2 ra => hr a W2 ra Q fun w W4 g4 rw' => k w W4 (g2.and g4) rw'
theorem ev_cb1 {r : List V → Hp → VK → Prop} (ha : EvR ε K ta σ W x) (hr : RC1 K r x y) : EvR ε K (tCB r (tCons ta tNil)) σ W y := fun W1 g1 Q k =>
  ha W1 g1 _ fun a W2 g2 ra => hr a W2 ra Q fun w W4 g4 rw' => k w W4 (g2.and g4) rw'
theorem ev_cb2 {r : List V → Hp → VK → Prop} (ha : EvR ε K ta σ W x) (hb : EvR ε K tb σ W y) (hr : RC2 K r x y z) : EvR ε K (tCB r (tCons ta (tCons tb tNil))) σ W z := fun W1 g1 Q k =>
  ha W1 g1 _ fun a W2 g2 ra => hb W2 (g1.trans g2) _ fun b W3 g3 rb => hr a b W3 (rep_s g3 ra) rb Q fun w W4 g4 rw' => k w W4 ((g2.trans g3).and g4) rw'
/-- a value that leaves the heap as it is -/
theorem ro_val (f : ∀ (v u : V) (W1 : Wd), rep K W1.B v x → rep K W1.B u y → ∀ Q : VK, (∀ w, rep K W1.B w z → Q w W1.H) → r v u W1.H Q) : RO K r x y z :=
  fun v u W1 rv ru Q k => f v u W1 rv ru Q fun w rw' => k w W1 (.refl _ _) rw'
theorem ro_I0 {g : Int → Int → Int} {i j : Int} : RO K (rI0 fun i j => .int (g i j)) i j (g i j) := ro_val fun _ _ _ rv ru Q k => ⟨i, j, rv, ru, k _ rfl⟩
theorem ro_B0 {g : Int → Int → Bool} {i j : Int} : RO K (rI0 fun i j => .bl (g i j)) i j (g i j) := ro_val fun _ _ _ rv ru Q k => ⟨i, j, rv, ru, k _ rfl⟩
theorem ro_I {C : Int → Int → Prop} {g : Int → Int → Int} {i j : Int} (hc : C i j) : RO K (rI C fun i j => .int (g i j)) i j (g i j) := ro_val fun _ _ _ rv ru Q k => ⟨i, j, rv, ru, hc, k _ rfl⟩
theorem ru_neg {i : Int} : RU K (rU fun i => .int (-i)) i (-i) := fun v W1 rv Q k => ⟨i, rv, k _ W1 (.refl _ _) rfl⟩
theorem ro_eqI {i j : Int} : RO K rEq i j (decide (i = j)) := ro_val fun v u _ rv ru Q k => by
  have e1 : v = .int i := rv
  have e2 : u = .int j := ru
  subst e1; subst e2
  refine ⟨rfl, k _ ?_⟩
  show V.bl _ = V.bl _
  congr 1
  simp
theorem ro_neI {i j : Int} : RO K rNe i j (!decide (i = j)) := ro_val fun v u _ rv ru Q k => by
  have e1 : v = .int i := rv
  have e2 : u = .int j := ru
  subst e1; subst e2
  refine ⟨rfl, k _ ?_⟩
  show V.bl _ = V.bl _
  congr 1
  simp
theorem ro_eqS {i j : Str} : RO K rEq i j (decide (i = j)) := ro_val fun v u _ rv ru Q k => by
  have e1 : v = .str i := rv
  have e2 : u = .str j := ru
  subst e1; subst e2
  refine ⟨rfl, k _ ?_⟩
  show V.bl _ = V.bl _
  congr 1
  simp
theorem ro_neS {i j : Str} : RO K rNe i j (!decide (i = j)) := ro_val fun v u _ rv ru Q k => by
  have e1 : v = .str i := rv
  have e2 : u = .str j := ru
  subst e1; subst e2
  refine ⟨rfl, k _ ?_⟩
  show V.bl _ = V.bl _
  congr 1
  simp
theorem ro_eqB {i j : Bool} : RO K rEq i j (decide (i = j)) := ro_val fun v u _ rv ru Q k => by
  have e1 : v = .bl i := rv
  have e2 : u = .bl j := ru
  subst e1; subst e2
  refine ⟨rfl, k _ ?_⟩
  show V.bl _ = V.bl _
  congr 1
  simp
theorem ro_neB {i j : Bool} : RO K rNe i j (!decide (i = j)) := ro_val fun v u _ rv ru Q k => by
  have e1 : v = .bl i := rv
  have e2 : u = .bl j := ru
  subst e1; subst e2
  refine ⟨rfl, k _ ?_⟩
  show V.bl _ = V.bl _
  congr 1
  simp
/-! places -/
theorem atI_ix {ζ : Type} {xs : List ζ} {i : Int} {v : ζ} (h : atI xs i = some v) : ∃ j, ixN xs.length i = some j ∧ xs[j]? = some v := by
  unfold atI at h
  cases e : ixN xs.length i with
  | none => rw [e] at h; cases h
  | some j => rw [e] at h; exact ⟨j, rfl, h⟩
theorem reps_at {vs : List V} {xs : List α} {H : Hp} {i : Int} (h : Reps K H vs xs) (e : atI xs i = some x) : ∃ v, atI vs i = some v ∧ rep K H v x := by
  obtain ⟨j, e1, e2⟩ := atI_ix e
  obtain ⟨v, h1, h2⟩ := Reps.get' h e2
  refine ⟨v, ?_, h2⟩
  unfold atI
  rw [Reps.len h, e1]
  exact h1
theorem ro_ixL {xs : List α} {i : Int} (h : atI xs i = some x) : RO K (rIxL K) xs i x := ro_val fun v u W1 rv ru Q k => by
  obtain ⟨a, vs, e1, s, r⟩ := rv
  have e2 : u = .int i := ru
  subst e1; subst e2
  obtain ⟨w, h1, h2⟩ := reps_at r h
  exact ⟨a, vs, i, w, rfl, rfl, SqL.of (W1.sub.el s), h1, k w h2⟩
theorem ro_ixT {xs : Tup α} {i : Int} (h : atI xs.items i = some x) : RO K (rIxT K) xs i x := ro_val fun v u W1 rv ru Q k => by
  obtain ⟨a, vs, e1, s, r⟩ := rv
  have e2 : u = .int i := ru
  subst e1; subst e2
  obtain ⟨w, h1, h2⟩ := reps_at r h
  exact ⟨a, vs, i, w, rfl, rfl, SqT.of (W1.sub.et s), h1, k w h2⟩
theorem ro_ixP0 {p : α × β} : RO K (rIxT K) p (0 : Int) p.1 := ro_val fun v u W1 rv ru Q k => by
  obtain ⟨a, x, y, e1, s, r1, r2⟩ := rv
  have e2 : u = .int 0 := ru
  subst e1; subst e2
  exact ⟨a, _, 0, x, rfl, rfl, SqT.of (W1.sub.et s), rfl, k x r1⟩
theorem ro_ixP1 {p : α × β} : RO K (rIxT K) p (1 : Int) p.2 := ro_val fun v u W1 rv ru Q k => by
  obtain ⟨a, x, y, e1, s, r1, r2⟩ := rv
  have e2 : u = .int 1 := ru
  subst e1; subst e2
  exact ⟨a, _, 1, y, rfl, rfl, SqT.of (W1.sub.et s), rfl, k y r2⟩
theorem ro_eqT [DecidableEq α] [Datum α] [PyD α] {x y : α} (hd : Datum.depth α ≤ 60) : RO K (rEqT K false) x y (decide (x = y)) := ro_val fun v u W1 rv ru Q k => ⟨α, _, _, x, y, PyD.dp (rep_h rv), PyD.dp (rep_h ru), hd, k _ rfl⟩
theorem ro_neT [DecidableEq α] [Datum α] [PyD α] {x y : α} (hd : Datum.depth α ≤ 60) : RO K (rEqT K true) x y (!decide (x = y)) := ro_val fun v u W1 rv ru Q k => ⟨α, _, _, x, y, PyD.dp (rep_h rv), PyD.dp (rep_h ru), hd, k _ rfl⟩
theorem ro_ltT [DecidableEq α] [DatumOrd α] [PyD α] {x y : α} (hd : Datum.depth α ≤ 60) : RO K (rLtT K) x y (DatumOrd.lt x y) := ro_val fun v u W1 rv ru Q k => ⟨α, _, _, x, y, PyD.dp (rep_h rv), PyD.dp (rep_h ru), hd, k _ rfl⟩
theorem ro_inL [DecidableEq α] [Datum α] [PyD α] {x : α} {y : List α} (hd : Datum.depth α ≤ 60) : RO K (rInTL K false) x y (decide (x ∈ y)) := ro_val fun v u W1 rv ru Q k => ⟨α, _, _, x, y, PyD.dp (rep_h rv), PyD.dp (rep_h ru), hd, k _ rfl⟩
theorem ro_ninL [DecidableEq α] [Datum α] [PyD α] {x : α} {y : List α} (hd : Datum.depth α ≤ 60) : RO K (rInTL K true) x y (!decide (x ∈ y)) := ro_val fun v u W1 rv ru Q k => ⟨α, _, _, x, y, PyD.dp (rep_h rv), PyD.dp (rep_h ru), hd, k _ rfl⟩
theorem ro_inT [DecidableEq α] [Datum α] [PyD α] {x : α} {y : Tup α} (hd : Datum.depth α ≤ 60) : RO K (rInTT K false) x y (decide (x ∈ y.items)) := ro_val fun v u W1 rv ru Q k => ⟨α, _, _, x, y, PyD.dp (rep_h rv), PyD.dp (rep_h ru), hd, k _ rfl⟩
theorem ro_ninT [DecidableEq α] [Datum α] [PyD α] {x : α} {y : Tup α} (hd : Datum.depth α ≤ 60) : RO K (rInTT K true) x y (!decide (x ∈ y.items)) := ro_val fun v u W1 rv ru Q k => ⟨α, _, _, x, y, PyD.dp (rep_h rv), PyD.dp (rep_h ru), hd, k _ rfl⟩
/-- a new list that may change -/
def EvN (ε : Ef) (K : Fg) (te : TE) (σ : SS) (W : Wd) (xs : List α) : Prop :=
  ∀ W1, Stp ε W W1 → ∀ Q : VK, (∀ p vs W2, Stp ε W1 W2 → W1.H p = none → W2.B p = none → W2.H p = some (.lst vs) → Reps K W2.B vs xs → Q (.ref p) W2.H) → te σ W1.H Q
theorem Stp.fix {W W' : Wd} (g : Stp ε W W') {p : Addr} {o : HO} (f : W.H p = none) (i : ε.I W) (h : W'.H p = some o) (n : W'.B p = none) : Stp ε W (W'.fix p o h) :=
  ⟨md_fix g.md h n f, i_fix (Ef.off i f) g.i h n⟩
theorem EvN.toR {xs : List α} (h : EvN ε K te σ W xs) : EvR ε K te σ W xs := fun W1 g1 Q k => h W1 g1 Q fun p vs W2 g2 f n e r =>
  k _ (W2.fix p _ e) (g2.fix f g1.i e n) ⟨p, vs, rfl, upd_same, Reps.mono (exExt (ex_fix e n)) r⟩
/-! displays -/
theorem ea_nil : EvAs ε K tNil σ W ([] : List α) := fun W1 g1 Q k => k [] W1 g1.rf .nil
theorem ea_cons {tr : TA} {xs : List α} (h : EvR ε K ta σ W x) (hr : EvAs ε K tr σ W xs) : EvAs ε K (tCons ta tr) σ W (x :: xs) := fun W1 g1 Q k =>
  h W1 g1 _ fun a W2 g2 ra => hr W2 (g1.trans g2) _ fun vs W3 g3 rs => k (a :: vs) W3 (g2.trans g3) (.cons (rep_s g3 ra) rs)
theorem ev_lst {ta : TA} {xs : List α} (h : EvAs ε K ta σ W xs) (hl : xs.length ≤ 100000) : EvR ε K (tLst ta) σ W xs := fun W1 g1 Q k =>
  h W1 g1 _ fun vs W2 g2 rs => ⟨Evl.sz_of (by rw [Reps.len rs]; exact hl), fun p hp => k _ (W2.add p (.lst vs)) (g2.and (W2.grow_add hp)) ⟨p, vs, rfl, upd_same, Reps.mono (exExt (W2.grow_add hp).b) rs⟩⟩
theorem en_lst {ta : TA} {xs : List α} (h : EvAs ε K ta σ W xs) (hl : xs.length ≤ 100000) : EvN ε K (tLst ta) σ W xs := fun W1 g1 Q k =>
  h W1 g1 _ fun vs W2 g2 rs => ⟨Evl.sz_of (by rw [Reps.len rs]; exact hl), fun p hp => k p vs (W2.put p (.lst vs) (W2.free hp)) (g2.and (W2.grow_put hp)) (by
    cases e : W1.H p with
    | none => rfl
    | some o => exact absurd hp (g2.md.d p (by rw [e]; exact fun z => by cases z))) (W2.free hp) upd_same rs⟩
theorem ev_tupN {ta : TA} {xs : List α} (h : EvAs ε K ta σ W xs) (hl : xs.length ≤ 100000) : EvR ε K (tTup ta) σ W (Tup.mk xs) := fun W1 g1 Q k =>
  h W1 g1 _ fun vs W2 g2 rs => ⟨Evl.sz_of (by rw [Reps.len rs]; exact hl), fun p hp => k _ (W2.add p (.tup vs)) (g2.and (W2.grow_add hp)) ⟨p, vs, rfl, upd_same, Reps.mono (exExt (W2.grow_add hp).b) rs⟩⟩
theorem ev_pair (ha : EvR ε K ta σ W x) (hb : EvR ε K tb σ W y) : EvR ε K (tTup (tCons ta (tCons tb tNil))) σ W (x, y) := fun W1 g1 Q k =>
  ha W1 g1 _ fun a W2 g2 ra => hb W2 (g1.trans g2) _ fun b W3 g3 rb => ⟨Evl.sz_of (by show 2 ≤ 100000; decide), fun p hp =>
    k _ (W3.add p (.tup [a, b])) ((g2.trans g3).and (W3.grow_add hp)) ⟨p, a, b, rfl, upd_same, rep_g (W3.grow_add hp) (rep_s g3 ra), rep_g (W3.grow_add hp) rb⟩⟩
theorem ev_t3 {tc : TE} (ha : EvR ε K ta σ W x) (hb : EvR ε K tb σ W y) (hc : EvR ε K tc σ W z) : EvR ε K (tTup (tCons ta (tCons tb (tCons tc tNil)))) σ W (T3.mk x y z) := fun W1 g1 Q k =>
  ha W1 g1 _ fun a W2 g2 ra => hb W2 (g1.trans g2) _ fun b W3 g3 rb => hc W3 ((g1.trans g2).trans g3) _ fun c W4 g4 rc => ⟨Evl.sz_of (by show 3 ≤ 100000; decide), fun p hp =>
    k _ (W4.add p (.tup [a, b, c])) (((g2.trans g3).trans g4).and (W4.grow_add hp)) ⟨p, a, b, c, rfl, upd_same, rep_g (W4.grow_add hp) (rep_s g4 (rep_s g3 ra)), rep_g (W4.grow_add hp) (rep_s g4 rb), rep_g (W4.grow_add hp) rc⟩⟩
/-! tests -/
theorem et_test {b : Bool} (h : EvR ε K te σ W b) : EvT ε (tTest te) σ W b := fun W1 g1 Q k => h W1 g1 _ fun v W2 g2 r => ⟨b, r, k W2 g2⟩
theorem et_B {b : Bool} (h : EvR ε K te σ W b) : EvT ε (tB te) σ W b := fun W1 g1 Q k => h W1 g1 _ fun v W2 g2 r => ⟨b, r, k W2 g2⟩
theorem et_and {a b : Bool} (h1 : EvT ε t σ W a) (h2 : a = true → EvT ε u σ W b) : EvT ε (tAnd t u) σ W (a && b) := fun W1 g1 Q k => h1 W1 g1 _ fun W2 g2 => by
  cases a with
  | false => exact k W2 g2
  | true => exact h2 rfl W2 (g1.trans g2) _ fun W3 g3 => k W3 (g2.trans g3)
theorem et_or {a b : Bool} (h1 : EvT ε t σ W a) (h2 : a = false → EvT ε u σ W b) : EvT ε (tOr t u) σ W (a || b) := fun W1 g1 Q k => h1 W1 g1 _ fun W2 g2 => by
  cases a with
  | true => exact k W2 g2
  | false => exact h2 rfl W2 (g1.trans g2) _ fun W3 g3 => k W3 (g2.trans g3)
theorem et_not {a : Bool} (h1 : EvT ε t σ W a) : EvT ε (tNot t) σ W (!a) := fun W1 g1 Q k => h1 W1 g1 _ fun W2 g2 => k W2 g2
theorem ev_andV {a b : Bool} (h1 : EvR ε K ta σ W a) (h2 : a = true → EvR ε K tb σ W b) : EvR ε K (tAndV ta tb) σ W (a && b) := fun W1 g1 Q k => h1 W1 g1 _ fun v W2 g2 r => ⟨a, r, by
  cases a with
  | false => exact k _ W2 g2 rfl
  | true => exact h2 rfl W2 (g1.trans g2) _ fun v W3 g3 r => k v W3 (g2.trans g3) r⟩
theorem ev_orV {a b : Bool} (h1 : EvR ε K ta σ W a) (h2 : a = false → EvR ε K tb σ W b) : EvR ε K (tOrV ta tb) σ W (a || b) := fun W1 g1 Q k => h1 W1 g1 _ fun v W2 g2 r => ⟨a, r, by
  cases a with
  | true => exact k _ W2 g2 rfl
  | false => exact h2 rfl W2 (g1.trans g2) _ fun v W3 g3 r => k v W3 (g2.trans g3) r⟩
theorem ev_notV {a : Bool} (h1 : EvR ε K ta σ W a) : EvR ε K (tNotV ta) σ W (!a) := fun W1 g1 Q k => h1 W1 g1 _ fun v W2 g2 r => ⟨a, r, k _ W2 g2 rfl⟩
theorem ev_if {b : Bool} {x' : α} (h : EvT ε t σ W b) (h1 : b = true → EvR ε K ta σ W x) (h2 : b = false → EvR ε K tb σ W x') : EvR ε K (tIf t ta tb) σ W (if b then x else x') := fun W1 g1 Q k => h W1 g1 _ fun W2 g2 => by
  cases b with
  | true => exact h1 rfl W2 (g1.trans g2) _ fun v W3 g3 r => k v W3 (g2.trans g3) r
  | false => exact h2 rfl W2 (g1.trans g2) _ fun v W3 g3 r => k v W3 (g2.trans g3) r
/-! calls of built-ins -/
def rMin2 : List V → Hp → VK → Prop := fun xs H Q => ∃ i j, xs = [.int i, .int j] ∧ Q (.int (if j < i then j else i)) H
def rMax2 : List V → Hp → VK → Prop := fun xs H Q => ∃ i j, xs = [.int i, .int j] ∧ Q (.int (if j > i then j else i)) H
def rAbs : List V → Hp → VK → Prop := fun xs H Q => ∃ i, xs = [.int i] ∧ Q (.int (if i < 0 then -i else i)) H
def rLen (K : Fg) : List V → Hp → VK → Prop := fun xs H Q => ∃ p ys, xs = [.ref p] ∧ (SqL K H p ys ∨ SqT K H p ys) ∧ Q (.int ys.length) H
def rLenS : List V → Hp → VK → Prop := fun xs H Q => ∃ z, xs = [.str z] ∧ z.length ≤ sizeLine ∧ Q (.int z.length) H
def rListO (K : Fg) : List V → Hp → VK → Prop := fun xs H Q => ∃ p ys, xs = [.ref p] ∧ (SqL K H p ys ∨ SqT K H p ys) ∧ ∀ l, H l = none → Q (.ref l) (upd H l (.lst ys))
def rDictC : List V → Hp → VK → Prop := fun xs H Q => ∃ a kvs, xs = [.ref a] ∧ Rd H a (.dK kvs) ∧ ∀ p, H p = none → Q (.ref p) (upd H p (.dK kvs))
section
variable {X : Cx}
theorem cr_min2 (hc : X.calm = true) : CallR X (.builtin "min") rMin2 := call_min2 hc
theorem cr_max2 (hc : X.calm = true) : CallR X (.builtin "max") rMax2 := call_max2 hc
theorem cr_abs : CallR X (.builtin "abs") rAbs := call_abs
theorem cr_len : CallR X (.builtin "len") (rLen X.K) := call_len_seq
theorem cr_lenS : CallR X (.builtin "len") rLenS := call_len_str
theorem cr_listO : CallR X (.type "list") (rListO X.K) := call_list_of
theorem cr_dictC : CallR X (.type "dict") rDictC := by
  intro pins s σ H xs us Q I r h
  obtain ⟨a, kvs, rfl, rd, k⟩ := h
  cases r with
  | cons r rr =>
    cases rr
    cases r
    exact d_copyOf I rd fun p s' hp I' => ⟨.ref p, _, I', rfl, k p hp⟩
end
theorem rc_min2 {i j : Int} : RC2 K rMin2 i j (if j < i then j else i) := fun v u W1 rv ru Q k => ⟨i, j, by rw [show v = _ from rv, show u = _ from ru], k _ W1 (.refl _ _) rfl⟩
theorem rc_max2 {i j : Int} : RC2 K rMax2 i j (if j > i then j else i) := fun v u W1 rv ru Q k => ⟨i, j, by rw [show v = _ from rv, show u = _ from ru], k _ W1 (.refl _ _) rfl⟩
theorem rc_abs {i : Int} : RC1 K rAbs i (if i < 0 then -i else i) := fun v W1 rv Q k => ⟨i, by rw [show v = _ from rv], k _ W1 (.refl _ _) rfl⟩
theorem rc_len {xs : List α} : RC1 K (rLen K) xs (xs.length : Int) := fun v W1 ⟨a, vs, e, s, r⟩ Q k => ⟨a, vs, by rw [e], .inl (SqL.of (W1.sub.el s)), by
  rw [Reps.len r]; exact k _ W1 (.refl _ _) rfl⟩
theorem rc_lenT {xs : Tup α} : RC1 K (rLen K) xs (xs.items.length : Int) := fun v W1 ⟨a, vs, e, s, r⟩ Q k => ⟨a, vs, by rw [e], .inr (SqT.of (W1.sub.et s)), by
  rw [Reps.len r]; exact k _ W1 (.refl _ _) rfl⟩
theorem rc_lenS {x : Str} (h : x.length ≤ 100000) : RC1 K rLenS x (x.length : Int) := fun v W1 e Q k => ⟨x, by rw [show v = _ from e], Evl.sz_of h, k _ W1 (.refl _ _) rfl⟩
theorem rc_list {xs : List α} : RC1 K (rListO K) xs xs := fun v W1 ⟨a, vs, e, s, r⟩ Q k => ⟨a, vs, by rw [e], .inl (SqL.of (W1.sub.el s)), fun l hl =>
  k _ (W1.add l (.lst vs)) (W1.grow_add hl) ⟨l, vs, rfl, upd_same, Reps.mono (exExt (W1.grow_add hl).b) r⟩⟩
theorem rc_listT {xs : Tup α} : RC1 K (rListO K) xs xs.items := fun v W1 ⟨a, vs, e, s, r⟩ Q k => ⟨a, vs, by rw [e], .inr (SqT.of (W1.sub.et s)), fun l hl =>
  k _ (W1.add l (.lst vs)) (W1.grow_add hl) ⟨l, vs, rfl, upd_same, Reps.mono (exExt (W1.grow_add hl).b) r⟩⟩
theorem rc_sum {xs : List Int} : RC1 K (rSum K) xs xs.sum := fun v W1 ⟨a, vs, e, s, r⟩ Q k => ⟨a, xs, by rw [e], by rw [← reps_int r]; exact SqL.of (W1.sub.el s), k _ W1 (.refl _ _) rfl⟩
/-- sorted: whatever stands in order with the same items -/
theorem rc_sortedI {xs ys : List Int} (hp : ys.Perm xs) (ho : ys.Pairwise (· ≤ ·)) : RC1 K (rSortedI K) xs ys := fun v W1 ⟨a, vs, e, s, r⟩ Q k => ⟨a, xs, by rw [e], by rw [← reps_int r]; exact SqL.of (W1.sub.el s), fun ns' p h1 h2 hp0 => by
  have e2 : ns' = ys := (h1.trans hp.symm).eq_of_pairwise (fun a b _ _ h h' => Int.le_antisymm h h') h2 ho
  subst e2
  exact k _ (W1.add p _) (W1.grow_add hp0) ⟨p, _, rfl, upd_same, int_reps _⟩⟩
theorem rc_all {xs : List Bool} : RC1 K (rAll K) xs (xs.all id) := fun v W1 ⟨a, vs, e, s, r⟩ Q k => ⟨a, xs, by rw [e], by rw [← reps_bl r]; exact SqL.of (W1.sub.el s), k _ W1 (.refl _ _) rfl⟩
theorem rc_any {xs : List Bool} : RC1 K (rAny K) xs (xs.any id) := fun v W1 ⟨a, vs, e, s, r⟩ Q k => ⟨a, xs, by rw [e], by rw [← reps_bl r]; exact SqL.of (W1.sub.el s), k _ W1 (.refl _ _) rfl⟩
/-- isinstance of one built-in class -/
theorem rc_isi {c a : String} {b : Bool} (ht : ∀ (W1 : Wd) v, rep K W1.B v x → TyX K W1.H v (.type a)) (hk : kitB a c = some b) : RC2 K (rIsi K) x (Raw.mk (.ty c)) b := fun v u W1 rv ru Q k =>
  ⟨v, u, .type a, .type c, b, by rw [show u = _ from ru], by rw [show u = _ from ru]; exact .ty c, ht W1 v rv, kit_ty hk, k _ W1 (.refl _ _) rfl⟩
theorem ty_int {i : Int} (W1 : Wd) (v : V) (h : rep K W1.B v i) : TyX K W1.H v (.type "int") := by rw [show v = _ from h]; exact .base (.int i)
theorem ty_str {i : Str} (W1 : Wd) (v : V) (h : rep K W1.B v i) : TyX K W1.H v (.type "str") := by rw [show v = _ from h]; exact .base (.str i)
theorem ty_bl {i : Bool} (W1 : Wd) (v : V) (h : rep K W1.B v i) : TyX K W1.H v (.type "bool") := by rw [show v = _ from h]; exact .base (.bl i)
theorem ty_non (W1 : Wd) (v : V) (h : rep K W1.B v ()) : TyX K W1.H v (.type "NoneType") := by rw [show v = _ from h]; exact .base .non
/-- {} -/
theorem ed_new {κ : Type} [PyKey κ] : EvD ε K tDNewK σ W (⟨[]⟩ : Dict κ α) := fun W1 g1 Q k p hp => k _ (W1.add p (.dK [])) (g1.rf.and (W1.grow_add hp)) ⟨p, [], rfl, upd_same, upd_same, .nil⟩
/-- dict(d) -/
theorem ed_copy {κ : Type} [PyKey κ] {d : Dict κ α} (h : EvR ε K te σ W d) : EvD ε K (tCB rDictC (tCons te tNil)) σ W d := fun W1 g1 Q k => h W1 g1 _ fun v W2 g2 ⟨a, ks, e, rd, r⟩ =>
  ⟨a, ks, by rw [e], W2.sub.rd rd, fun p hp => k _ (W2.add p (.dK ks)) (g2.and (W2.grow_add hp)) ⟨p, ks, rfl, upd_same, upd_same, KReps.mono (exExt (W2.grow_add hp).b) r⟩⟩
/-- list(d.items()) of an unlocked dict -/
theorem ev_listItems {κ : Type} [PyKV κ] {d : Dict κ α} (h : EvD ε K te σ W d) : EvR ε K (LiI.tListItems te) σ W d.kv := fun W1 g1 Q k => h W1 g1 _ fun v W2 g2 ⟨a, ks, e, hB, hH, r⟩ => by
  refine ⟨a, ks, e, hH, fun H' p ts hx hp hts hpt hl hpr => ?_⟩
  -- the new world
  let B' : Hp := fun b => match W2.B b with
    | some o => some o
    | none => if b = p then H' p else if b ∈ ts then H' b else none
  have hB' : ∀ b o, W2.B b = some o → B' b = some o := fun b o q => by show (match W2.B b with | some o => some o | none => _) = some o; rw [q]
  have hnew : ∀ b, W2.H b = none → B' b = (if b = p then H' p else if b ∈ ts then H' b else none) := fun b q => by
    show (match W2.B b with | some o => some o | none => _) = _
    rw [W2.free q]
  have sub : Ext B' H' := fun b o q => by
    cases e2 : W2.B b with
    | some o' =>
      have : B' b = some o' := hB' b o' e2
      rw [this] at q; cases q
      rcases W2.sub b o e2 with h1 | ⟨h0, ob, h1⟩
      · exact .inl (hx b o h1)
      · exact .inr ⟨h0, ob, hx b _ h1⟩
    | none =>
      have : B' b = (if b = p then H' p else if b ∈ ts then H' b else none) := by
        show (match W2.B b with | some o => some o | none => _) = _
        rw [e2]
      rw [this] at q
      by_cases z : b = p
      · rw [if_pos z] at q; rw [z]; exact .inl q
      · rw [if_neg z] at q
        by_cases z2 : b ∈ ts
        · rw [if_pos z2] at q; exact .inl q
        · rw [if_neg z2] at q; cases q
  let W3 : Wd := ⟨B', H', sub⟩
  have gr : Grow W2 W3 := .mk hB' hx fun b hb => by
    show B' b = W2.B b
    cases e2 : W2.B b with
    | some o' => exact hB' b o' e2
    | none =>
      have : B' b = (if b = p then H' p else if b ∈ ts then H' b else none) := by
        show (match W2.B b with | some o => some o | none => _) = _
        rw [e2]
      rw [this, if_neg (fun z => hb.ne (by rw [z]; exact hp)), if_neg (fun z => hb.ne (hts b z))]
  refine k _ W3 (g2.and gr) ⟨p, ts.map V.ref, rfl, by show B' p = _; rw [hnew p hp, if_pos rfl]; exact hl, ?_⟩
  have r3 : KReps K W3.B ks d.kv := KReps.mono (exExt gr.b) r
  clear k
  have hts' : ∀ t ∈ ts, B' t = H' t := fun t ht => by
    rw [hnew t (hts t ht), if_neg (fun z => hpt (by rw [← z]; exact ht)), if_pos ht]
  have main : ∀ (ts : List Addr) (ks : List (Key × V)) (kv : List (κ × α)), (∀ t ∈ ts, B' t = H' t) → Paired (fun (t : Addr) (q : Key × V) => H' t = some (.tup [kV q.1, q.2])) ts ks → KReps K B' ks kv → Reps K B' (ts.map V.ref) kv := by
    intro ts
    induction ts with
    | nil => intro ks kv _ a b; cases a; cases b; exact .nil
    | cons t ts ih =>
      intro ks kv h a b
      cases a with
      | cons a1 a2 =>
        cases b with
        | cons b1 b2 =>
          refine .cons ⟨t, _, _, rfl, (h t List.mem_cons_self).trans a1, ?_, b1.2⟩ (ih _ _ (fun t' ht' => h t' (List.mem_cons_of_mem _ ht')) a2 b2)
          rw [b1.1]
          exact PyKV.krep _ _ _
  exact main ts ks d.kv hts' hpr r3
/-! slices -/
def cutL (xs : List α) (lo hi : Option Int) : List α := (xs.drop (HT.sIx xs.length 0 lo)).take (HT.sIx xs.length xs.length hi - HT.sIx xs.length 0 lo)
theorem eo_none : EvO ε tNoPart σ W none := fun W1 g1 Q k => k W1 g1.rf
theorem eo_some {i : Int} (h : EvR ε K te σ W i) : EvO ε (tPart te) σ W (some i) := fun W1 g1 Q k => h W1 g1 _ fun v W2 g2 r => ⟨i, r, k W2 g2⟩
theorem ev_slL {tl th : TO} {xs : List α} {lo hi : Option Int} (h : EvR ε K te σ W xs) (h1 : EvO ε tl σ W lo) (h2 : EvO ε th σ W hi) : EvR ε K (tSl (rSlL K) te tl th) σ W (cutL xs lo hi) := fun W1 g1 Q k =>
  h W1 g1 _ fun v W2 g2 rx => h1 W2 (g1.trans g2) _ fun W3 g3 => h2 W3 ((g1.trans g2).trans g3) _ fun W4 g4 => by
    obtain ⟨a, vs, e, s, r⟩ := rep_s g4 (rep_s g3 rx)
    refine ⟨a, vs, e, SqL.of (W4.sub.el s), fun p hp => k _ (W4.add p _) (((g2.trans g3).trans g4).and (W4.grow_add hp)) ⟨p, _, rfl, upd_same, Reps.mono (exExt (W4.grow_add hp).b) ?_⟩⟩
    unfold cutV cutL
    rw [Reps.len r]
    exact Reps.take _ (Reps.drop _ r)
theorem ev_revL {xs : List α} (h : EvR ε K te σ W xs) : EvR ε K (tRevL K te) σ W xs.reverse := fun W1 g1 Q k => h W1 g1 _ fun v W2 g2 ⟨a, vs, e, s, r⟩ =>
  ⟨a, vs, e, SqL.of (W2.sub.el s), fun p hp => k _ (W2.add p _) (g2.and (W2.grow_add hp)) ⟨p, _, rfl, upd_same, Reps.mono (exExt (W2.grow_add hp).b) (Reps.rev r)⟩⟩
end

/-! ### what is walked -/
/-- J walks xs in every world that S tells -/
structure Src {α : Type} [Py α] (K : Fg) (J : It) (S : Wd → Prop) (xs : List α) : Prop where
  go : ∀ i W', S W' → i < xs.length → J.go i W'.H
  yld : ∀ i W' v H'', S W' → i < xs.length → J.yld i W'.H v H'' → ∃ x W'', W''.H = H'' ∧ Grow W' W'' ∧ xs[i]? = some x ∧ rep K W''.B v x
  stop : ∀ i W', S W' → xs.length ≤ i → J.stop i W'.H
def EvI {α : Type} [Py α] (ε : Ef) (K : Fg) (wi : TI) (σ : SS) (W : Wd) (xs : List α) : Prop :=
  ∀ W1, Stp ε W W1 → ∀ R : It → Hp → Prop, (∀ J S W2, Stp ε W1 W2 → S W2 → (∀ W W', S W → Stp ε W W' → S W') → Src K J S xs → R J W2.H) → wi σ W1.H R
def EvJ {α : Type} [Py α] (ε : Ef) (K : Fg) (wi : TI) (σ : SS) (W : Wd) (xs : List α) : Prop :=
  ∀ W1, Stp ε W W1 → ∀ R : It → Hp → Prop, (∀ J W2, Stp ε W1 W2 → Src K J (On W2) xs → R J W2.H) → wi σ W1.H R
section
variable {α β γ : Type} [Py α] [Py β] [Py γ] {K : Fg} {σ : SS} {W W' : Wd} {v : V} {te ta tb : TE} {wi : TI} {ε : Ef}
theorem EvJ.i {xs : List α} (h : EvJ ε K wi σ W xs) : EvI ε K wi σ W xs := fun W1 g1 R k => h W1 g1 R fun J W2 g2 s => k J (On W2) W2 g2 (.refl _) (fun _ _ a b => a.trans b.on) s
theorem ei_list {xs : List α} (h : EvR ε K te σ W xs) : EvJ ε K (iList K te) σ W xs := fun W1 g1 R k => h W1 g1 _ fun v W2 g2 ⟨a, vs, e, s, r⟩ =>
  ⟨a, e, ⟨vs, SqL.of (W2.sub.el s)⟩, k (Itl K a) W2 g2 ⟨fun i W' o hi => by
      obtain ⟨x, hx⟩ : ∃ x, xs[i]? = some x := ⟨xs[i], by simp [hi]⟩
      obtain ⟨v, h1, _⟩ := Reps.get' r hx
      exact ⟨vs, v, SqL.of (W'.sub.el (o.b _ _ s)), h1⟩,
    fun i W' v H'' o hi ⟨e1, e2⟩ => by
      obtain ⟨x, h1, h2⟩ := Reps.get r (e2 vs (SqL.of (W'.sub.el (o.b _ _ s))))
      exact ⟨x, W', e1.symm, .refl _ _, h1, rex o.b h2⟩,
    fun i W' o hi => ⟨vs, SqL.of (W'.sub.el (o.b _ _ s)), by rw [Reps.len r]; exact hi⟩⟩⟩
theorem ei_tup {xs : Tup α} (h : EvR ε K te σ W xs) : EvJ ε K (iTup K te) σ W xs.items := fun W1 g1 R k => h W1 g1 _ fun v W2 g2 ⟨a, vs, e, s, r⟩ =>
  ⟨a, e, ⟨vs, SqT.of (W2.sub.et s)⟩, k (Itt K a) W2 g2 ⟨fun i W' o hi => by
      obtain ⟨x, hx⟩ : ∃ x, xs.items[i]? = some x := ⟨xs.items[i], by simp [hi]⟩
      obtain ⟨v, h1, _⟩ := Reps.get' r hx
      exact ⟨vs, v, SqT.of (W'.sub.et (o.b _ _ s)), h1⟩,
    fun i W' v H'' o hi ⟨e1, e2⟩ => by
      obtain ⟨x, h1, h2⟩ := Reps.get r (e2 vs (SqT.of (W'.sub.et (o.b _ _ s))))
      exact ⟨x, W', e1.symm, .refl _ _, h1, rex o.b h2⟩,
    fun i W' o hi => ⟨vs, SqT.of (W'.sub.et (o.b _ _ s)), by rw [Reps.len r]; exact hi⟩⟩⟩
/-- lo, lo + 1, .. -/
def rng (lo : Int) (n : Nat) : List Int := (List.range n).map fun i => lo + (i : Nat)
theorem rng_len (lo : Int) (n : Nat) : (rng lo n).length = n := by unfold rng; simp
theorem rng_get {lo : Int} {n i : Nat} (h : i < n) : (rng lo n)[i]? = some (lo + (i : Nat)) := by unfold rng; simp [h]
theorem rng_mem {lo k : Int} {n : Nat} : k ∈ rng lo n ↔ lo ≤ k ∧ k < lo + n := by
  unfold rng
  simp only [List.mem_map, List.mem_range]
  constructor
  · rintro ⟨i, h, rfl⟩; omega
  · rintro ⟨h1, h2⟩; exact ⟨(k - lo).toNat, by omega, by omega⟩
theorem src_range {lo : Int} {n : Nat} {S : Wd → Prop} : Src K (Itr lo n) S (rng lo n) :=
  ⟨fun i W' _ hi => by rw [rng_len] at hi; exact hi, fun i W' v H'' _ hi ⟨e1, e2⟩ => ⟨_, W', e1.symm, .refl _ _, rng_get (by rw [rng_len] at hi; exact hi), e2⟩,
    fun i W' _ hi => by rw [rng_len] at hi; exact hi⟩
theorem ei_rng1 {n : Int} (h : EvR ε K ta σ W n) (hn : n ≤ 1000000000) (hm : -1000000000 ≤ n) : EvJ ε K (iRng1 (tCons ta tNil)) σ W (rng 0 n.toNat) := fun W1 g1 R k => h W1 g1 _ fun v W2 g2 r =>
  ⟨n, by rw [show v = _ from r], by omega, by omega, k _ W2 g2 src_range⟩
theorem ei_rng2 {m n : Int} (ha : EvR ε K ta σ W m) (hb : EvR ε K tb σ W n) (h1 : m ≤ 1000000000 ∧ -1000000000 ≤ m ∧ n ≤ 1000000000 ∧ -1000000000 ≤ n) : EvJ ε K (iRng2 (tCons ta (tCons tb tNil))) σ W (rng m (n - m).toNat) := fun W1 g1 R k => ha W1 g1 _ fun v W2 g2 r =>
  hb W2 (g1.trans g2) _ fun u W3 g3 ru => ⟨m, n, by rw [show v = _ from r, show u = _ from ru], by omega, k _ W3 (g2.trans g3) src_range⟩
theorem ei_enum {xs : List α} (h : EvR ε K te σ W xs) : EvJ ε K (iEnum K (tCons te tNil)) σ W ((rng 0 xs.length).zip xs) := fun W1 g1 R k => h W1 g1 _ fun v W2 g2 ⟨a, vs, e, s, r⟩ =>
  ⟨a, vs, by rw [e], SqL.of (W2.sub.el s), k (Ite K a) W2 g2 ⟨fun i W' o hi => by
      have hi' : i < xs.length := by simp [rng_len] at hi; exact hi
      obtain ⟨x, hx⟩ : ∃ x, xs[i]? = some x := ⟨xs[i], by simp [hi']⟩
      obtain ⟨v, h1, _⟩ := Reps.get' r hx
      exact ⟨vs, v, SqL.of (W'.sub.el (o.b _ _ s)), h1⟩,
    fun i W' v H'' o hi ⟨T, x, e1, hT, e2, e3⟩ => by
      have hi' : i < xs.length := by simp [rng_len] at hi; exact hi
      obtain ⟨y, h1, h2⟩ := Reps.get r (e3 vs (SqL.of (W'.sub.el (o.b _ _ s))))
      refine ⟨((i : Int), y), W'.add T _, e2.symm, W'.grow_add hT, ?_, T, .int (i : Nat), x, e1, upd_same, rfl, rep_g (W'.grow_add hT) (rex o.b h2)⟩
      rw [List.getElem?_zip_eq_some]
      exact ⟨by rw [rng_get hi']; simp, h1⟩,
    fun i W' o hi => ⟨vs, SqL.of (W'.sub.el (o.b _ _ s)), by rw [Reps.len r]; simp [rng_len] at hi; exact hi⟩⟩⟩
theorem ei_zip {xs : List α} {ys : List β} (ha : EvR ε K ta σ W xs) (hb : EvR ε K tb σ W ys) : EvJ ε K (iZip K (tCons ta (tCons tb tNil))) σ W (xs.zip ys) := fun W1 g1 R k => ha W1 g1 _ fun v W2 g2 r1 => hb W2 (g1.trans g2) _ fun u W3 g3 r2 => by
  obtain ⟨a, vs, e, s, r⟩ := rep_s g3 r1
  obtain ⟨b, us, e', s', r'⟩ := r2
  refine ⟨a, b, vs, us, by rw [e, e'], SqL.of (W3.sub.el s), SqL.of (W3.sub.el s'), k (Itz K a b) W3 (g2.trans g3) ⟨fun i W' o hi => ?_, fun i W' v H'' o hi ⟨T, x, y, e1, hT, e2, e3, e4⟩ => ?_, fun i W' o hi => ?_⟩⟩
  · have hi' : i < xs.length ∧ i < ys.length := by simp at hi; omega
    obtain ⟨x, hx⟩ : ∃ x, xs[i]? = some x := ⟨xs[i], by simp [hi'.1]⟩
    obtain ⟨y, hy⟩ : ∃ x, ys[i]? = some x := ⟨ys[i], by simp [hi'.2]⟩
    obtain ⟨v, h1, _⟩ := Reps.get' r hx
    obtain ⟨u, h2, _⟩ := Reps.get' r' hy
    exact ⟨vs, us, v, u, SqL.of (W'.sub.el (o.b _ _ s)), SqL.of (W'.sub.el (o.b _ _ s')), h1, h2⟩
  · obtain ⟨p, h1, h2⟩ := Reps.get r (e3 vs (SqL.of (W'.sub.el (o.b _ _ s))))
    obtain ⟨q, h3, h4⟩ := Reps.get r' (e4 us (SqL.of (W'.sub.el (o.b _ _ s'))))
    refine ⟨(p, q), W'.add T _, e2.symm, W'.grow_add hT, ?_, T, x, y, e1, upd_same, rep_g (W'.grow_add hT) (rex o.b h2), rep_g (W'.grow_add hT) (rex o.b h4)⟩
    rw [List.getElem?_zip_eq_some]
    exact ⟨h1, h3⟩
  · refine ⟨vs, us, SqL.of (W'.sub.el (o.b _ _ s)), SqL.of (W'.sub.el (o.b _ _ s')), ?_⟩
    rw [Reps.len r, Reps.len r']
    simp at hi
    omega
end
end B
/-! B: comprehensions, locked dicts, statements, calls -/
namespace B
open PySem L2
open Evl (Ex)
/-! ### an iterated target -/
def GT {α : Type} [Py α] (K : Fg) (g : TG) (P : α → SS → SS → Wd → Prop) : Prop :=
  ∀ x v W σ (Q : SS → Hp → Prop), rep K W.B v x → (∀ σ2, P x σ σ2 W → Q σ2 W.H) → g v σ W.H Q
section
variable {α β γ : Type} [Py α] [Py β] [Py γ] {K : Fg} {σ : SS} {W W' : Wd} {v : V} {te ta tb : TE} {tt : TT} {wi : TI} {g : TG} {vs : List Nat} {ε : Ef}
def PN (K : Fg) (j : Nat) (x : α) (σ σ2 : SS) (W : Wd) : Prop := ∃ v, rep K W.B v x ∧ σ2 = σ.set j (some v)
def PP (K : Fg) (i j : Nat) (x : α × β) (σ σ2 : SS) (W : Wd) : Prop := ∃ v u, rep K W.B v x.1 ∧ rep K W.B u x.2 ∧ σ2 = (σ.set i (some v)).set j (some u)
theorem gt_name {j : Nat} : GT (α := α) K (gName j) (PN K j) := fun x v W σ Q r k => k _ ⟨v, r, rfl⟩
abbrev gPair (K : Fg) (i j : Nat) : TG := gTup K 2 (gCons (gName i) (gCons (gName j) gNil))
theorem gt_pair {i j : Nat} : GT (α := α × β) K (gPair K i j) (PP K i j) := fun x v W σ Q ⟨a, p, q, e, s, r1, r2⟩ k =>
  ⟨a, [p, q], e, SqT.of (W.sub.et s), rfl, p, [q], rfl, q, [], rfl, rfl, k _ ⟨p, q, r1, r2, rfl⟩⟩
/-! ### list comprehensions -/
theorem en_lc {xs : List α} {p : α → Bool} {f : α → β} {P : α → SS → SS → Wd → Prop} (hi : EvI ε K wi σ W xs) (hg : GT K g P)
    (hw : ∀ x σ2 W', P x (wipe σ vs) σ2 W' → wipe σ2 vs = wipe σ vs)
    (ht : ∀ x W' σ2, x ∈ xs → Stp ε W W' → P x (wipe σ vs) σ2 W' → EvT ε tt σ2 W' (p x))
    (he : ∀ x W' σ2, x ∈ xs → p x = true → Stp ε W W' → P x (wipe σ vs) σ2 W' → EvR ε K te σ2 W' (f x))
    (hP : ∀ x σ2 W' W'', P x (wipe σ vs) σ2 W' → Stp ε W' W'' → P x (wipe σ vs) σ2 W'')
    (hl : xs.length ≤ 100000) : EvN ε K (tLc wi g tt te vs) σ W ((xs.filter p).map f) := fun W1 g1 Q k =>
  hi W1 g1 _ fun J S W2 g2 s2 sg src D hD => by
    have DS : D ∉ ε.S := Ef.off g2.i hD
    refine ⟨fun i m H => m = xs.length - i ∧ i ≤ xs.length ∧ ∃ Wi acc, Wi.H = H ∧ Stp ε W2 Wi ∧ Wi.B D = none ∧ Wi.H D = some (.lst acc) ∧ Reps K Wi.B acc (((xs.take i).filter p).map f), ⟨xs.length, rfl, Nat.zero_le _, W2.put D (.lst []) (W2.free hD), [], rfl, ⟨md_mut (.refl _ _) (W2.free hD) hD, i_put DS g2.i _⟩, W2.free hD, upd_same, by simpa using Paired.nil⟩, ?_⟩
    rintro i m H ⟨rfl, hle, Wi, acc, rfl, gi, bD, hDi, rs⟩
    have si : S Wi := sg _ _ s2 gi
    have hacc : acc.length ≤ i := by
      rw [Reps.len rs, List.length_map]
      exact Nat.le_trans (List.length_filter_le _ _) (by rw [List.length_take]; omega)
    by_cases hlt : i < xs.length
    · refine .inr ⟨src.go i Wi si hlt, fun H => i + 1 ≤ xs.length ∧ ∃ Wi acc, Wi.H = H ∧ Stp ε W2 Wi ∧ Wi.B D = none ∧ Wi.H D = some (.lst acc) ∧ Reps K Wi.B acc (((xs.take (i + 1)).filter p).map f), fun H' h' => ⟨_, by omega, rfl, h'⟩, fun v H'' hy => ?_⟩
      obtain ⟨x, W3, rfl, g3', hx, r⟩ := src.yld i Wi v H'' si hlt hy
      have g3 : Stp ε Wi W3 := gi.rf.and g3'
      have hm : x ∈ xs := List.mem_of_getElem? hx
      have tk : xs.take (i + 1) = xs.take i ++ [x] := by rw [List.take_add_one, hx]; rfl
      have m3 := g3.md.mut DS hDi bD
      refine hg x v W3 _ _ r fun σ2 hp => ⟨hw x σ2 W3 hp, ?_⟩
      refine ht x W3 σ2 hm (((g1.trans g2).trans gi).trans g3) hp W3 g3.rf _ fun W4 g4 => ?_
      have m4 := g4.md.mut DS m3.1 m3.2
      cases hpx : p x with
      | true =>
        rw [if_pos rfl]
        refine he x W4 σ2 hm hpx ((((g1.trans g2).trans gi).trans g3).trans g4) (hP x σ2 W3 W4 hp g4) W4 g4.rf _ fun u W5 g5 r5 => ?_
        have m5 := g5.md.mut DS m4.1 m4.2
        refine ⟨acc, m5.1, Evl.sz_lt (by omega), hlt, W5.put D _ m5.2, acc ++ [u], rfl, ⟨md_mut (((gi.trans g3).trans g4).trans g5).md m5.2 hD, i_put DS g5.i _⟩, m5.2, upd_same, ?_⟩
        rw [tk, List.filter_append, List.map_append]
        simp only [List.filter_cons, hpx, if_pos, List.filter_nil, List.map_cons, List.map_nil]
        exact Reps.snoc (Reps.mono (exExt ((g3.trans g4).trans g5).md.b) rs) r5
      | false =>
        rw [if_neg Bool.false_ne_true]
        refine ⟨hlt, W4, acc, rfl, (gi.trans g3).trans g4, m4.2, m4.1, ?_⟩
        rw [tk, List.filter_append, List.map_append]
        simp only [List.filter_cons, hpx, List.filter_nil, List.map_nil, List.append_nil, if_neg Bool.false_ne_true]
        exact Reps.mono (exExt (g3.trans g4).md.b) rs
    · have e : i = xs.length := by omega
      subst e
      rw [List.take_length] at rs
      exact .inl ⟨src.stop _ Wi si (Nat.le_refl _), k D acc Wi (g2.trans gi) (by
        cases e : W1.H D with
        | none => rfl
        | some o => exact absurd hD (g2.md.d D (by rw [e]; exact fun z => by cases z))) bD hDi rs⟩
theorem et_yes : EvT ε tYes σ W true := fun W1 g1 Q k => k W1 g1.rf
theorem wipe1 {j : Nat} {v : V} : wipe ((wipe σ [j]).set j (some v)) [j] = wipe σ [j] := by simp [wipe, List.set_set]
theorem set_none_comm {σ : SS} {i j : Nat} {a : Option V} (h : i ≠ j) : (σ.set i a).set j none = (σ.set j none).set i a := List.set_comm _ _ h
theorem wipe2 {i j : Nat} {v u : V} : wipe (((wipe σ [i, j]).set i (some v)).set j (some u)) [i, j] = wipe σ [i, j] := by
  simp only [wipe]
  by_cases h : i = j
  · subst h; simp [List.set_set]
  · rw [List.set_set, set_none_comm (σ := ((σ.set j none).set i none)) h, List.set_set, List.set_comm (l := σ) _ _ (Ne.symm h), List.set_set]
    rw [List.set_comm (l := σ) _ _ h, List.set_set]
theorem filter_yes (xs : List α) : xs.filter (fun _ => true) = xs := List.filter_eq_self.mpr fun _ _ => rfl
/-- [e for x in ..], [e for x in .. if t] -/
theorem en_lcN {j : Nat} {xs : List α} {f : α → β} (hi : EvI ε K wi σ W xs) (he : ∀ x v W', x ∈ xs → Stp ε W W' → rep K W'.B v x → EvR ε K te ((wipe σ [j]).set j (some v)) W' (f x)) (hl : xs.length ≤ 100000) :
    EvN ε K (tLc wi (gName j) tYes te [j]) σ W (xs.map f) := by
  have := en_lc (ε := ε) (K := K) (wi := wi) (g := gName j) (tt := tYes) (te := te) (vs := [j]) (p := fun _ => true) (f := f) hi gt_name (fun x σ2 W' ⟨v, _, e⟩ => by rw [e]; exact wipe1) (fun _ _ _ _ _ _ => et_yes)
    (fun x W' σ2 hm _ g ⟨v, r, e⟩ => by rw [e]; exact he x v W' hm g r) (fun x σ2 W' W'' ⟨v, r, e⟩ g => ⟨v, rep_s g r, e⟩) hl
  rw [filter_yes] at this
  exact this
theorem ev_lcN {j : Nat} {xs : List α} {f : α → β} (hi : EvI ε K wi σ W xs) (he : ∀ x v W', x ∈ xs → Stp ε W W' → rep K W'.B v x → EvR ε K te ((wipe σ [j]).set j (some v)) W' (f x)) (hl : xs.length ≤ 100000) :
    EvR ε K (tLc wi (gName j) tYes te [j]) σ W (xs.map f) := (en_lcN hi he hl).toR
theorem en_lcNt {j : Nat} {xs : List α} {p : α → Bool} {f : α → β} (hi : EvI ε K wi σ W xs) (ht : ∀ x v W', x ∈ xs → Stp ε W W' → rep K W'.B v x → EvT ε tt ((wipe σ [j]).set j (some v)) W' (p x))
    (he : ∀ x v W', x ∈ xs → p x = true → Stp ε W W' → rep K W'.B v x → EvR ε K te ((wipe σ [j]).set j (some v)) W' (f x)) (hl : xs.length ≤ 100000) :
    EvN ε K (tLc wi (gName j) tt te [j]) σ W ((xs.filter p).map f) :=
  en_lc hi gt_name (fun x σ2 W' ⟨v, _, e⟩ => by rw [e]; exact wipe1) (fun x W' σ2 hm g ⟨v, r, e⟩ => by rw [e]; exact ht x v W' hm g r)
    (fun x W' σ2 hm hp g ⟨v, r, e⟩ => by rw [e]; exact he x v W' hm hp g r) (fun x σ2 W' W'' ⟨v, r, e⟩ g => ⟨v, rep_s g r, e⟩) hl
theorem ev_lcNt {j : Nat} {xs : List α} {p : α → Bool} {f : α → β} (hi : EvI ε K wi σ W xs) (ht : ∀ x v W', x ∈ xs → Stp ε W W' → rep K W'.B v x → EvT ε tt ((wipe σ [j]).set j (some v)) W' (p x))
    (he : ∀ x v W', x ∈ xs → p x = true → Stp ε W W' → rep K W'.B v x → EvR ε K te ((wipe σ [j]).set j (some v)) W' (f x)) (hl : xs.length ≤ 100000) :
    EvR ε K (tLc wi (gName j) tt te [j]) σ W ((xs.filter p).map f) := (en_lcNt hi ht he hl).toR
theorem en_lcP {i j : Nat} {xs : List (α × β)} {f : α × β → γ} (hi : EvI ε K wi σ W xs) (he : ∀ x v u W', x ∈ xs → Stp ε W W' → rep K W'.B v x.1 → rep K W'.B u x.2 → EvR ε K te (((wipe σ [i, j]).set i (some v)).set j (some u)) W' (f x)) (hl : xs.length ≤ 100000) :
    EvN ε K (tLc wi (gPair K i j) tYes te [i, j]) σ W (xs.map f) := by
  have := en_lc (ε := ε) (K := K) (wi := wi) (g := gPair K i j) (tt := tYes) (te := te) (vs := [i, j]) (p := fun _ => true) (f := f) hi gt_pair (fun x σ2 W' ⟨v, u, _, _, e⟩ => by rw [e]; exact wipe2) (fun _ _ _ _ _ _ => et_yes)
    (fun x W' σ2 hm _ g ⟨v, u, r, r', e⟩ => by rw [e]; exact he x v u W' hm g r r') (fun x σ2 W' W'' ⟨v, u, r, r', e⟩ g => ⟨v, u, rep_s g r, rep_s g r', e⟩) hl
  rw [filter_yes] at this
  exact this
theorem ev_lcP {i j : Nat} {xs : List (α × β)} {f : α × β → γ} (hi : EvI ε K wi σ W xs) (he : ∀ x v u W', x ∈ xs → Stp ε W W' → rep K W'.B v x.1 → rep K W'.B u x.2 → EvR ε K te (((wipe σ [i, j]).set i (some v)).set j (some u)) W' (f x)) (hl : xs.length ≤ 100000) :
    EvR ε K (tLc wi (gPair K i j) tYes te [i, j]) σ W (xs.map f) := (en_lcP hi he hl).toR
theorem en_lcPt {i j : Nat} {xs : List (α × β)} {p : α × β → Bool} {f : α × β → γ} (hi : EvI ε K wi σ W xs) (ht : ∀ x v u W', x ∈ xs → Stp ε W W' → rep K W'.B v x.1 → rep K W'.B u x.2 → EvT ε tt (((wipe σ [i, j]).set i (some v)).set j (some u)) W' (p x))
    (he : ∀ x v u W', x ∈ xs → p x = true → Stp ε W W' → rep K W'.B v x.1 → rep K W'.B u x.2 → EvR ε K te (((wipe σ [i, j]).set i (some v)).set j (some u)) W' (f x)) (hl : xs.length ≤ 100000) :
    EvN ε K (tLc wi (gPair K i j) tt te [i, j]) σ W ((xs.filter p).map f) :=
  en_lc hi gt_pair (fun x σ2 W' ⟨v, u, _, _, e⟩ => by rw [e]; exact wipe2) (fun x W' σ2 hm g ⟨v, u, r, r', e⟩ => by rw [e]; exact ht x v u W' hm g r r')
    (fun x W' σ2 hm hp g ⟨v, u, r, r', e⟩ => by rw [e]; exact he x v u W' hm hp g r r') (fun x σ2 W' W'' ⟨v, u, r, r', e⟩ g => ⟨v, u, rep_s g r, rep_s g r', e⟩) hl
theorem ev_lcPt {i j : Nat} {xs : List (α × β)} {p : α × β → Bool} {f : α × β → γ} (hi : EvI ε K wi σ W xs) (ht : ∀ x v u W', x ∈ xs → Stp ε W W' → rep K W'.B v x.1 → rep K W'.B u x.2 → EvT ε tt (((wipe σ [i, j]).set i (some v)).set j (some u)) W' (p x))
    (he : ∀ x v u W', x ∈ xs → p x = true → Stp ε W W' → rep K W'.B v x.1 → rep K W'.B u x.2 → EvR ε K te (((wipe σ [i, j]).set i (some v)).set j (some u)) W' (f x)) (hl : xs.length ≤ 100000) :
    EvR ε K (tLc wi (gPair K i j) tt te [i, j]) σ W ((xs.filter p).map f) := (en_lcPt hi ht he hl).toR
end

/-! ### a dict, locked -/
structure Lk (W WL : Wd) (d : Addr) (ks : List (Key × V)) : Prop where
  b : Ex W.B WL.B
  lk : ∃ od, WL.H d = some (.frz od (.dK ks))
  h : ∀ a o, a ≠ d → W.H a = some o → WL.H a = some o
section
variable {α β : Type} [Py α] [Py β] {K : Fg} {σ : SS} {W W' : Wd} {v : V} {te : TE} {t : TE} {ε : Ef}
theorem rep_lk {WL : Wd} {d : Addr} {ks : List (Key × V)} {x : α} (l : Lk W WL d ks) (h : rep K W.B v x) : rep K WL.B v x := rex l.b h
theorem ev_lock {d : Addr} {ks : List (Key × V)} {x : α} (hd : W.H d = some (.dK ks)) (h : ∀ WL, Lk W WL d ks → EvR pur K t σ WL x) : EvR pur K (tLockE t) σ W x := fun W1 g1' Q k => by
  have g1 := g1'.pure
  have hd1 := g1.h _ _ hd
  refine ⟨d, _, hd1, trivial, fun od => ?_⟩
  have sub : Ext W1.B (upd W1.H d (.frz od (.dK ks))) := fun a o e => by
    by_cases q : a = d
    · subst q
      rcases W1.sub a o e with h1 | ⟨⟨k', rfl⟩, ob, h1⟩
      · rw [hd1] at h1; cases h1
        exact .inr ⟨⟨ks, rfl⟩, od, upd_same⟩
      · rw [hd1] at h1; cases h1
    · rw [upd_ne q]; exact W1.sub a o e
  let WL : Wd := ⟨W1.B, upd W1.H d (.frz od (.dK ks)), sub⟩
  have lk : Lk W WL d ks := ⟨g1.b, ⟨od, upd_same⟩, fun a o q e => by
    show upd W1.H d _ a = some o
    rw [upd_ne q]; exact g1.h a o e⟩
  refine h WL lk WL (.start trivial) _ fun v W2 g2' r => ?_
  have g2 := g2'.pure
  have h2 : W2.H d = some (.frz od (.dK ks)) := g2.h _ _ upd_same
  refine ⟨h2, ?_⟩
  have hB : W2.B d = W1.B d := g2.m d ⟨.frz od (.dK ks), upd_same, fun _ z => by cases z⟩
  have sub3 : Ext W2.B (upd W2.H d (.dK ks)) := fun a o e => by
    by_cases q : a = d
    · subst q
      rw [hB] at e
      rcases W1.sub a o e with h1 | ⟨⟨k', rfl⟩, ob, h1⟩
      · rw [hd1] at h1; cases h1; exact .inl upd_same
      · rw [hd1] at h1; cases h1
    · rw [upd_ne q]; exact W2.sub a o e
  refine k v ⟨W2.B, upd W2.H d (.dK ks), sub3⟩ (.of (.mk g2.b (fun a o e => ?_) (fun a ha => ?_))) r
  · show upd W2.H d (.dK ks) a = some o
    by_cases q : a = d
    · subst q; rw [hd1] at e; cases e; exact upd_same
    · rw [upd_ne q]
      exact g2.h a o (by show upd W1.H d _ a = some o; rw [upd_ne q]; exact e)
  · refine g2.m a ?_
    show Nt (upd W1.H d _) a
    by_cases q : a = d
    · subst q; exact ⟨_, upd_same, fun _ z => by cases z⟩
    · obtain ⟨u, e, hu⟩ := ha
      exact ⟨u, (upd_ne q).trans e, hu⟩
section
variable {κ : Type} [PyKV κ] {d : Addr} {ks : List (Key × V)} {kv : List (κ × α)}
theorem ei_items {WL : Wd} (hv : EvR pur K te σ WL (Raw.mk (.ref d))) (lk : ∃ od, WL.H d = some (.frz od (.dK ks))) (r : KReps K WL.B ks kv) : EvI pur K (iItems te) σ WL kv := fun W1 g1 R k => hv W1 g1 _ fun v W2 g2 e => by
  obtain ⟨od, hod⟩ := lk
  have h2 := (g1.trans g2).pure.h _ _ hod
  refine ⟨d, od, ks, e, h2, k (Iti d od ks) (fun W' => W'.H d = some (.frz od (.dK ks)) ∧ Ex WL.B W'.B) W2 g2 ⟨h2, (g1.trans g2).md.b⟩ (fun W W' ⟨a, b⟩ g => ⟨g.pure.h _ _ a, b.trans g.md.b⟩) ⟨fun i W' s hi => ⟨s.1, by rw [KReps.len r]; exact hi⟩, fun i W' v H'' s hi ⟨T, k', v', h1, e1, hT, e2⟩ => ?_, fun i W' s hi => ⟨s.1, by rw [KReps.len r]; exact hi⟩⟩⟩
  obtain ⟨q, hq, hk, hr⟩ := KReps.get r h1
  refine ⟨q, W'.add T _, e2.symm, W'.grow_add hT, hq, T, _, _, e1, upd_same, ?_, rep_g (W'.grow_add hT) (rex s.2 hr)⟩
  rw [hk]
  exact PyKV.krep _ _ _
theorem ei_keys {WL : Wd} (hv : EvR pur K te σ WL (Raw.mk (.ref d))) (lk : ∃ od, WL.H d = some (.frz od (.dK ks))) (r : KReps K WL.B ks kv) : EvI pur K (iKeys te) σ WL (kv.map (·.1)) := fun W1 g1 R k => hv W1 g1 _ fun v W2 g2 e => by
  obtain ⟨od, hod⟩ := lk
  have h2 := (g1.trans g2).pure.h _ _ hod
  refine ⟨d, od, e, .inl ⟨ks, h2, k (Itk d od ks) (fun W' => W'.H d = some (.frz od (.dK ks)) ∧ Ex WL.B W'.B) W2 g2 ⟨h2, (g1.trans g2).md.b⟩ (fun W W' ⟨a, b⟩ g => ⟨g.pure.h _ _ a, b.trans g.md.b⟩) ⟨fun i W' s hi => ⟨s.1, by rw [KReps.len r]; simpa using hi⟩, fun i W' v H'' s hi ⟨e2, k', v', h1, e1⟩ => ?_, fun i W' s hi => ⟨s.1, by rw [KReps.len r]; simpa using hi⟩⟩⟩⟩
  obtain ⟨q, hq, hk, hr⟩ := KReps.get r h1
  exact ⟨q.1, W', e2.symm, .refl _ _, by simp [hq], by rw [e1, hk]; exact PyKV.krep _ _ _⟩
theorem ei_vals {WL : Wd} (hv : EvR pur K te σ WL (Raw.mk (.ref d))) (lk : ∃ od, WL.H d = some (.frz od (.dK ks))) (r : KReps K WL.B ks kv) : EvI pur K (iVals te) σ WL (kv.map (·.2)) := fun W1 g1 R k => hv W1 g1 _ fun v W2 g2 e => by
  obtain ⟨od, hod⟩ := lk
  have h2 := (g1.trans g2).pure.h _ _ hod
  refine ⟨d, od, ks, e, h2, k (Itd d od ks) (fun W' => W'.H d = some (.frz od (.dK ks)) ∧ Ex WL.B W'.B) W2 g2 ⟨h2, (g1.trans g2).md.b⟩ (fun W W' ⟨a, b⟩ g => ⟨g.pure.h _ _ a, b.trans g.md.b⟩) ⟨fun i W' s hi => ⟨s.1, by rw [KReps.len r]; simpa using hi⟩, fun i W' v H'' s hi ⟨e2, k', h1⟩ => ?_, fun i W' s hi => ⟨s.1, by rw [KReps.len r]; simpa using hi⟩⟩⟩
  obtain ⟨q, hq, hk, hr⟩ := KReps.get r h1
  exact ⟨q.2, W', e2.symm, .refl _ _, by simp [hq], rex s.2 hr⟩
end
end

/-! ### statements -/
section
variable {α β γ : Type} [Py α] [Py β] [Py γ] {K : Fg} {σ : SS} {W : Wd} {D : Ends} {te ta tb : TE} {t : TT} {tu tw tz : TS} {x : α} {y : β} {ε : Ef}
theorem s_asgP {P : V → Wd → Prop} {i : Nat} (h : EvP ε te σ W P) (s : ε.I W) (k : ∀ v W', Stp ε W W' → P v W' → D.nx (σ.set i (some v)) W'.H) : tAsg te (gName i) D σ W.H := h W (.start s) _ k
theorem q_asgP {P : V → Wd → Prop} {i : Nat} (h : EvP ε te σ W P) (s : ε.I W) (k : ∀ v W', Stp ε W W' → P v W' → tz D (σ.set i (some v)) W'.H) : tSeq (tAsg te (gName i)) tz D σ W.H := h W (.start s) _ k
theorem q_asg {i : Nat} (h : EvR ε K te σ W x) (s : ε.I W) (k : ∀ v W', Stp ε W W' → rep K W'.B v x → tz D (σ.set i (some v)) W'.H) : tSeq (tAsg te (gName i)) tz D σ W.H := h W (.start s) _ k
theorem s_asg {i : Nat} (h : EvR ε K te σ W x) (s : ε.I W) (k : ∀ v W', Stp ε W W' → rep K W'.B v x → D.nx (σ.set i (some v)) W'.H) : tAsg te (gName i) D σ W.H := h W (.start s) _ k
theorem q_asgN {xs : List α} {i : Nat} (h : EvN ε K te σ W xs) (s : ε.I W) (k : ∀ p vs W', Stp ε W W' → W.H p = none → W'.B p = none → W'.H p = some (.lst vs) → Reps K W'.B vs xs → tz D (σ.set i (some (.ref p))) W'.H) : tSeq (tAsg te (gName i)) tz D σ W.H := h W (.start s) _ k
theorem s_asgN {xs : List α} {i : Nat} (h : EvN ε K te σ W xs) (s : ε.I W) (k : ∀ p vs W', Stp ε W W' → W.H p = none → W'.B p = none → W'.H p = some (.lst vs) → Reps K W'.B vs xs → D.nx (σ.set i (some (.ref p))) W'.H) : tAsg te (gName i) D σ W.H := h W (.start s) _ k
theorem s_retN {xs : List α} (h : EvN ε K te σ W xs) (s : ε.I W) (k : ∀ p vs W', Stp ε W W' → W.H p = none → W'.B p = none → W'.H p = some (.lst vs) → Reps K W'.B vs xs → D.rt (.ref p) W'.H) : tRet te D σ W.H := h W (.start s) _ k
theorem s_ret (h : EvR ε K te σ W x) (s : ε.I W) (k : ∀ v W', Stp ε W W' → rep K W'.B v x → D.rt v W'.H) : tRet te D σ W.H := h W (.start s) _ k
theorem s_retP {P : V → Wd → Prop} (h : EvP ε te σ W P) (s : ε.I W) (k : ∀ v W', Stp ε W W' → P v W' → D.rt v W'.H) : tRet te D σ W.H := h W (.start s) _ k
theorem s_if {b : Bool} (h : EvT ε t σ W b) (s : ε.I W) (h1 : b = true → ∀ W', Stp ε W W' → tu D σ W'.H) (h2 : b = false → ∀ W', Stp ε W W' → tw D σ W'.H) : tIfS t tu tw D σ W.H := h W (.start s) _ fun W' g => by
  cases b with
  | true => rw [if_pos rfl]; exact h1 rfl W' g
  | false => rw [if_neg Bool.false_ne_true]; exact h2 rfl W' g
theorem q_if {b : Bool} (h : EvT ε t σ W b) (s : ε.I W) (h1 : b = true → ∀ W', Stp ε W W' → tu { D with nx := tz D } σ W'.H) (h2 : b = false → ∀ W', Stp ε W W' → tw { D with nx := tz D } σ W'.H) : tSeq (tIfS t tu tw) tz D σ W.H := s_if (D := { D with nx := tz D }) h s h1 h2
/-- an if without else -/
theorem q_when {b : Bool} (h : EvT ε t σ W b) (s : ε.I W) (h1 : b = true → ∀ W', Stp ε W W' → tu { D with nx := tz D } σ W'.H) (h2 : b = false → ∀ W', Stp ε W W' → tz D σ W'.H) : tSeq (tIfS t tu tNext) tz D σ W.H := s_if (D := { D with nx := tz D }) h s h1 h2
theorem s_when {b : Bool} (h : EvT ε t σ W b) (s : ε.I W) (h1 : b = true → ∀ W', Stp ε W W' → tu D σ W'.H) (h2 : b = false → ∀ W', Stp ε W W' → D.nx σ W'.H) : tIfS t tu tNext D σ W.H := s_if h s h1 h2
theorem q_drop {P : V → Wd → Prop} (h : EvP ε te σ W P) (s : ε.I W) (k : ∀ v W', Stp ε W W' → P v W' → tz D σ W'.H) : tSeq (tDrop te) tz D σ W.H := h W (.start s) _ k
theorem q_augI {i : Nat} {f : Int → Int → Int} {a b : Int} (hx : σ[i]? = some (some (.int a))) (h : EvR ε K te σ W b) (s : ε.I W) (k : ∀ W', Stp ε W W' → tz D (σ.set i (some (.int (f a b)))) W'.H) : tSeq (tAug i te (ipI f)) tz D σ W.H :=
  ⟨_, hx, h W (.start s) _ fun u W' g ru => ⟨a, b, rfl, ru, k W' g⟩⟩
theorem s_augI {i : Nat} {f : Int → Int → Int} {a b : Int} (hx : σ[i]? = some (some (.int a))) (h : EvR ε K te σ W b) (s : ε.I W) (k : ∀ W', Stp ε W W' → D.nx (σ.set i (some (.int (f a b)))) W'.H) : tAug i te (ipI f) D σ W.H :=
  ⟨_, hx, h W (.start s) _ fun u W' g ru => ⟨a, b, rfl, ru, k W' g⟩⟩
/-- a, b = x, y -/
theorem q_par {i j : Nat} {P R : V → Wd → Prop} (ha : EvP ε ta σ W P) (hb : EvP ε tb σ W R) (s : ε.I W) (mono : ∀ v W W', Stp ε W W' → P v W → P v W')
    (k : ∀ v u W', Stp ε W W' → P v W' → R u W' → tz D ((σ.set i (some v)).set j (some u)) W'.H) : tSeq (tPar i j (tCons ta (tCons tb tNil))) tz D σ W.H :=
  ha W (.start s) _ fun v W1 g1 p => hb W1 g1 _ fun u W2 g2 r => ⟨v, u, rfl, k v u W2 (g1.trans g2) (mono v W1 W2 g2 p) r⟩
/-- the turns of a for over what J walks: Pv by the turn, the slots, the world -/
theorem for_src {g : TG} {xs : List α} {J : It} {W2 : Wd} (src : Src K J (On W2) xs) (Pv : Nat → SS → Wd → Prop) (h0 : Pv 0 σ W2) (hon : ∀ i σ' W', Pv i σ' W' → On W2 W')
    (hs : ∀ i x v σ' W' W'', i < xs.length → xs[i]? = some x → Pv i σ' W' → Grow W' W'' → rep K W''.B v x → g v σ' W''.H fun σ2 H2 => tu { D with nx := fun σ H => ∃ W, W.H = H ∧ Pv (i + 1) σ W, ct := fun σ H => ∃ W, W.H = H ∧ Pv (i + 1) σ W, bk := D.nx } σ2 H2)
    (hd : ∀ σ' W', Pv xs.length σ' W' → D.nx σ' W'.H) :
    ∃ W : Nat → Nat → SS → Hp → Prop, (∃ m, W 0 m σ W2.H) ∧ ∀ i m σ H, W i m σ H →
      (J.stop i H ∧ D.nx σ H) ∨ (J.go i H ∧ ∃ N : SS → Hp → Prop, (∀ σ' H', N σ' H' → ∃ m', m' < m ∧ W (i + 1) m' σ' H') ∧ ∀ x H', J.yld i H x H' → g x σ H' fun σ2 H2 => tu { D with nx := N, ct := N, bk := D.nx } σ2 H2) := by
  refine ⟨fun i m σ H => m = xs.length - i ∧ i ≤ xs.length ∧ ∃ W, W.H = H ∧ Pv i σ W, ⟨xs.length, rfl, Nat.zero_le _, W2, rfl, h0⟩, ?_⟩
  rintro i m σ' H ⟨rfl, hle, W', rfl, p⟩
  by_cases hlt : i < xs.length
  · refine .inr ⟨src.go i W' (hon i σ' W' p) hlt, fun σ H => ∃ W, W.H = H ∧ Pv (i + 1) σ W, fun σ'' H'' q => ⟨_, by omega, rfl, hlt, q⟩, fun v H'' hy => ?_⟩
    obtain ⟨x, W'', rfl, gg, hx, r⟩ := src.yld i W' v H'' (hon i σ' W' p) hlt hy
    exact hs i x v σ' W' W'' hlt hx p gg r
  · have e : i = xs.length := by omega
    subst e
    exact .inl ⟨src.stop _ W' (hon _ _ _ p) (Nat.le_refl _), hd σ' W' p⟩
/-- for target in .. -/
theorem s_for {wi : TI} {g : TG} {xs : List α} (hi : EvJ ε K wi σ W xs) (s : ε.I W)
    (k : ∀ W2, Stp ε W W2 → ∃ Pv : Nat → SS → Wd → Prop, Pv 0 σ W2 ∧ (∀ i σ' W', Pv i σ' W' → On W2 W') ∧
      (∀ i x v σ' W' W'', i < xs.length → xs[i]? = some x → Pv i σ' W' → Grow W' W'' → rep K W''.B v x → g v σ' W''.H fun σ2 H2 => tu { D with nx := fun σ H => ∃ W, W.H = H ∧ Pv (i + 1) σ W, ct := fun σ H => ∃ W, W.H = H ∧ Pv (i + 1) σ W, bk := D.nx } σ2 H2) ∧
      (∀ σ' W', Pv xs.length σ' W' → D.nx σ' W'.H)) : tFor wi g tu D σ W.H := hi W (.start s) _ fun J W2 g2 src => by
  obtain ⟨Pv, h0, hon, hs, hd⟩ := k W2 g2
  exact for_src src Pv h0 hon hs hd
theorem q_for {wi : TI} {g : TG} {xs : List α} (hi : EvJ ε K wi σ W xs) (s : ε.I W)
    (k : ∀ W2, Stp ε W W2 → ∃ Pv : Nat → SS → Wd → Prop, Pv 0 σ W2 ∧ (∀ i σ' W', Pv i σ' W' → On W2 W') ∧
      (∀ i x v σ' W' W'', i < xs.length → xs[i]? = some x → Pv i σ' W' → Grow W' W'' → rep K W''.B v x → g v σ' W''.H fun σ2 H2 => tu { D with nx := fun σ H => ∃ W, W.H = H ∧ Pv (i + 1) σ W, ct := fun σ H => ∃ W, W.H = H ∧ Pv (i + 1) σ W, bk := tz D } σ2 H2) ∧
      (∀ σ' W', Pv xs.length σ' W' → tz D σ' W'.H)) : tSeq (tFor wi g tu) tz D σ W.H := s_for (D := { D with nx := tz D }) hi s k
/-- for k in range(a drawn number) -/
theorem for_rng {j : Nat} {n : Int} {W2 : Wd} (Pv : Nat → SS → Wd → Prop) (h0 : Pv 0 σ W2) (hon : ∀ i σ' W', Pv i σ' W' → On W2 W')
    (hs : ∀ (i : Nat) σ' W', (i : Int) < n → Pv i σ' W' → tu { D with nx := fun σ H => ∃ W, W.H = H ∧ Pv (i + 1) σ W, ct := fun σ H => ∃ W, W.H = H ∧ Pv (i + 1) σ W, bk := D.nx } (σ'.set j (some (.int (i : Int)))) W'.H)
    (hd : ∀ σ' W', Pv n.toNat σ' W' → D.nx σ' W'.H) :
    ∃ W : Nat → Nat → SS → Hp → Prop, (∃ m, W 0 m σ W2.H) ∧ ∀ i m σ H, W i m σ H →
      ((Itr 0 n.toNat).stop i H ∧ D.nx σ H) ∨ ((Itr 0 n.toNat).go i H ∧ ∃ N : SS → Hp → Prop, (∀ σ' H', N σ' H' → ∃ m', m' < m ∧ W (i + 1) m' σ' H') ∧ ∀ x H', (Itr 0 n.toNat).yld i H x H' → gName j x σ H' fun σ2 H2 => tu { D with nx := N, ct := N, bk := D.nx } σ2 H2) :=
  L2.for_range (fun i σ H => ∃ W, W.H = H ∧ Pv i σ W) ⟨W2, rfl, h0⟩ (fun i σ H hi ⟨W', e, p⟩ => by
    subst e
    have := hs i σ W' (by omega) p
    show tu _ (σ.set j (some (.int (0 + (i : Nat))))) W'.H
    rw [Int.zero_add]; exact this) (fun σ H ⟨W', e, p⟩ => by subst e; exact hd σ W' p)
/-- while -/
theorem s_while (Wm : Nat → SS → Wd → Prop) (m0 : Nat) (h0 : Wm m0 σ W)
    (hs : ∀ m σ' W', Wm m σ' W' → ε.I W' ∧ ∃ b, EvT ε t σ' W' b ∧ (b = true → ∀ W'', Stp ε W' W'' → tu { D with nx := fun σ H => ∃ m' W, m' < m ∧ W.H = H ∧ Wm m' σ W, ct := fun σ H => ∃ m' W, m' < m ∧ W.H = H ∧ Wm m' σ W, bk := D.nx } σ' W''.H) ∧ (b = false → ∀ W'', Stp ε W' W'' → D.nx σ' W''.H)) : tWhile t tu D σ W.H := by
  refine ⟨fun m σ H => ∃ W, W.H = H ∧ Wm m σ W, ⟨m0, W, rfl, h0⟩, ?_⟩
  rintro m σ' H ⟨W', rfl, w⟩
  obtain ⟨hI, b, ht, h1, h2⟩ := hs m σ' W' w
  refine ht W' (.start hI) _ fun W'' g => ?_
  cases b with
  | true =>
    rw [if_pos rfl]
    exact ⟨fun σ H => ∃ m' W, m' < m ∧ W.H = H ∧ Wm m' σ W, fun σ2 H2 ⟨m', W, hm, e, q⟩ => ⟨m', hm, W, e, q⟩, h1 rfl W'' g⟩
  | false =>
    rw [if_neg Bool.false_ne_true]
    exact h2 rfl W'' g

/-! ### calls of defs -/
theorem ev_callP1 {P R : V → Wd → Prop} {sp : Sp} {E : XK} (ha : EvP ε ta σ W P) (hs : ∀ v W1, Stp ε W W1 → P v W1 → ∀ Q : VK, (∀ u W2, Stp ε W1 W2 → R u W2 → Q u W2.H) → sp [v] W1.H Q E) : EvP ε (tCall sp [] E (tCons ta tNil)) σ W R := fun W1 g1 Q k =>
  ha W1 g1 _ fun v W2 g2 p => hs v W2 (g1.trans g2) p Q fun u W3 g3 r => k u W3 (g2.trans g3) r
theorem ev_callP2 {P P2 R : V → Wd → Prop} {sp : Sp} {E : XK} (ha : EvP ε ta σ W P) (hb : EvP ε tb σ W P2) (mono : ∀ v W W', Stp ε W W' → P v W → P v W')
    (hs : ∀ v v2 W1, Stp ε W W1 → P v W1 → P2 v2 W1 → ∀ Q : VK, (∀ u W2, Stp ε W1 W2 → R u W2 → Q u W2.H) → sp [v, v2] W1.H Q E) : EvP ε (tCall sp [] E (tCons ta (tCons tb tNil))) σ W R := fun W1 g1 Q k =>
  ha W1 g1 _ fun v W2 g2 p => hb W2 (g1.trans g2) _ fun v2 W3 g3 p2 => hs v v2 W3 ((g1.trans g2).trans g3) (mono v W2 W3 g3 p) p2 Q fun u W4 g4 r => k u W4 ((g2.trans g3).trans g4) r
end
end B
/-! B: short names of readings, more derivations -/
namespace B
open PySem L2
open Evl (Ex)
abbrev oAdd : R2 := rI0 fun i j => .int (i + j)
abbrev oSub : R2 := rI0 fun i j => .int (i - j)
abbrev oMul : R2 := rI CMul fun i j => .int (i * j)
abbrev oDiv : R2 := rI CDiv fun i j => .int (i / j)
abbrev oMod : R2 := rI (fun _ j => 0 < j) fun i j => .int (i % j)
abbrev oPow : R2 := rI CPow fun i j => .int (i ^ j.toNat)
abbrev oLt : R2 := rI0 fun i j => .bl (decide (i < j))
abbrev oLe : R2 := rI0 fun i j => .bl (decide (i ≤ j))
abbrev oGt : R2 := rI0 fun i j => .bl (decide (j < i))
abbrev oGe : R2 := rI0 fun i j => .bl (decide (j ≤ i))
abbrev oNeg : V → Hp → VK → Prop := rU fun i => .int (-i)
abbrev oIsN : R2 := fun x y H Q => y = .non ∧ Q (.bl (decide (x = .non))) H
abbrev oNotN : R2 := fun x y H Q => y = .non ∧ Q (.bl (!decide (x = .non))) H
abbrev oCatS : R2 := fun x y H Q => ∃ i j, x = .str i ∧ y = .str j ∧ i.length + j.length ≤ sizeLine ∧ Q (.str (i ++ j)) H
abbrev oLtS : R2 := fun x y H Q => ∃ i j, x = .str i ∧ y = .str j ∧ Q (.bl (decide (i.cps.toList < j.cps.toList))) H
abbrev oInS : R2 := fun x y H Q => ∃ i j, x = .str i ∧ y = .str j ∧ Q (.bl (!(Builtin.Str.occurrences j i 0 j.length 1).isEmpty)) H
abbrev tTru (K : Fg) (ta : TE) : TT := fun σ H Q => ta σ H fun x H' => ∃ k, TruV K x H' k ∧ Q k H'
abbrev rInt1 : List V → Hp → VK → Prop := fun xs H Q => (∃ i, xs = [.int i] ∧ Q (.int i) H) ∨ ∃ k, xs = [.bl k] ∧ Q (.int (if k then 1 else 0)) H
abbrev rTupleO (K : Fg) : List V → Hp → VK → Prop := fun xs H Q => ∃ p ys, xs = [.ref p] ∧ ((SqL K H p ys ∧ ∀ l, H l = none → Q (.ref l) (upd H l (.tup ys))) ∨ (SqT K H p ys ∧ Q (.ref p) H))
abbrev rLenD : List V → Hp → VK → Prop := fun xs H Q => ∃ a kvs, xs = [V.ref a] ∧ H a = some (.dK kvs) ∧ Q (.int kvs.length) H
theorem cr_tupleO {X : Cx} : CallR X (.type "tuple") (rTupleO X.K) := call_tuple_of
theorem cr_lenD {X : Cx} : CallR X (.builtin "len") rLenD := call_lenD

/-! ### name = {k: v for ..} -/
section
variable {X : Cx}
theorem ps_setDc {i : Nat} {y : Str} {py : Pos} {kx vx tg iter : Expr} {ifs : List Expr} {scope : Scope} {own : List (Str × Nat)} {pos spos : Pos} {wi : TI} {g : TG} {tt : TT} {tk tv : TE} (hc : X.calm = true) (hN : X.N.Nodup) (hy : X.N[i]? = some y) (hyl : X.env.scope.names.lookup y = some .local)
    (hsw : swapsWith (.DictComp kx vx [⟨tg, iter, ifs, 0⟩] scope pos) (some (.Name y py)) spos.line X.env = pure true) (hi : PI X tg iter wi) (ok : BlkOk X.N X.env.scope scope own)
    (hg : ∀ (s : Shared) (H : Hp) (C : Addr) (cl : List (Str × Addr)) (fp : List Addr), PG (X.blk s H scope (compEnvC scope cl C X.env) fp) tg g) (ht : ∀ (s : Shared) (H : Hp) (C : Addr) (cl : List (Str × Addr)) (fp : List Addr), PTs (X.blk s H scope (compEnvC scope cl C X.env) fp) ifs tt)
    (hk : ∀ (s : Shared) (H : Hp) (C : Addr) (cl : List (Str × Addr)) (fp : List Addr), PE (X.blk s H scope (compEnvC scope cl C X.env) fp) kx tk)
    (he : ∀ (s : Shared) (H : Hp) (C : Addr) (cl : List (Str × Addr)) (fp : List Addr), PE (X.blk s H scope (compEnvC scope cl C X.env) fp) vx tv) (hs : ∀ x, foldedSetIterable iter X.env x = pure x := by intro _; rfl) :
    PS X (.Assign [.Name y py] (.DictComp kx vx [⟨tg, iter, ifs, 0⟩] scope pos) spos) (tAsg (tDc wi g tt tk tv (own.map (·.2))) (gName i)) := by
  refine ⟨fun pins s σ H D I h => ?_⟩
  rw [exec_Assign_Name_used _ _ _ _ hsw]
  refine wpAny_bind (wpAny_standAt (wpAny_bind ?_))
  show wpAny _ X.A (do let _ ← comprehension (.DictComp kx vx [⟨tg, iter, ifs, 0⟩] scope pos) scope X.env (firstIterPos [⟨tg, iter, ifs, 0⟩] pos) newDict false (eval iter X.env) (some (assign (.Name y py) X.env))) _ _ s
  have h : tDc wi g tt tk tv (own.map (·.2)) σ H (fun x H1 => gName i x σ H1 D.nx) := h
  refine wpAny_bind (thn (dc_core (Qf := fun _ s' => SP X pins D .next s') hc hN I hi ok hg ht hk he hs h fun L C s' m H' I' q hn f => ?_) fun _ s' hq => wpAny_pure (wpAny_pure hq))
  show wpAny _ _ (assign (.Name y py) X.env (.ref L)) _ _ _
  refine wpAny_assign_Name (store_ok2 (v := V.ref L) I' hN hy (.inl hyl) rfl (fun s2 I2 ⟨a, sb, ha⟩ => ?_) (.inr hyl))
  obtain ⟨f0, f1, f2, f3, f4, f5⟩ := f
  have haC : C ≠ a := by
    rcases ha with z | z
    · rw [z]; exact f1
    · exact fun e => f4 y a z e.symm
  refine ⟨m, hn.sameBut sb haC, fun h3 sb3 => ?_⟩
  exact ⟨_, H', I2.turned (t' := s2.toks) (fun b o hb e => (sb3.2 b hb).trans e) f0 f1 f3 f4 f5, q⟩
theorem sw_trueD {kx vx : Expr} {gs : List Comprehension} {scope : Scope} {pos py : Pos} {y : Str} {l : Nat} {env : Env} (hk : env.scope.kind = .function) (hy : env.scope.names.lookup y = some .local) (hl : (py.line == pos.line) = true)
    (ha : (scope.names.any fun (n, k) => n == y && (k == .local || k == .cell)) = false) : swapsWith (.DictComp kx vx gs scope pos) (some (.Name y py)) l env = pure true := by
  have ky : env.kindOf y = some .local := hy
  have hb : env.blockKind = .function := by unfold Env.blockKind; rw [hk]; rfl
  unfold swapsWith
  simp only [hb, ky, ha, Expr.pos, hl]
  rfl
end

/-! ### f(k = v, ..) -/
def perm {ζ : Type} (l : List Nat) (ws : List ζ) : List ζ := l.filterMap fun i => ws[i]?
theorem perm_rel (l : List Nat) {vs : List V} {us : List Value} (r : Vals vs us) : Vals (perm l vs) (perm l us) := by
  induction l with
  | nil => exact .nil
  | cons i l ih =>
    unfold perm
    rw [List.filterMap_cons, List.filterMap_cons]
    cases e : vs[i]? with
    | none =>
      rw [r.none_of e]
      exact ih
    | some v =>
      obtain ⟨u, h1, h2⟩ := r.get e
      rw [h1]
      exact .cons h2 ih
def KwB (K : Fg) (fd : FuncData) (ps ks : List Str) (l : List Nat) : Prop := ∀ (s : Shared) (ws : List Value), K.In s.heap → ws.length = ks.length → BindsTo s fd ⟨[], ks.zip ws⟩ (ps.zip (perm l ws))
theorem kwb_mk {K : Fg} {x qual : Str} {st : Stmt} {f : Addr} {fd : FuncData} {ps ks : List Str} {l : List Nat} (F : Fun K x qual st f fd)
    (h : ∀ (kV doc pm : Value) (an : Option Addr) (cdv ct : Value) (us : List Value), us.length = ks.length → bindArgs (PySem.W.fnOf x qual (defArgs st) (defBody st) (defScope st) .none kV doc pm an cdv ct) ⟨[], ks.zip us⟩ = pure (ps.zip (perm l us))) : KwB K fd ps ks l := by
  obtain ⟨oc, od, kV, doc, pm, an, cdv, ct, osl, rfl, lk, hcd⟩ := F.ex
  exact fun s ws _ hl => .of_eq (h kV doc pm an cdv ct ws hl)
def tCallKw (sp : Sp) (l : List Nat) (m : Nat) (E : XK) (tk : TA) : TE := fun σ H Q => tk σ H fun zs H2 => zs.length = m ∧ sp (perm l zs) H2 Q E
theorem pe_callKw {X : Cx} {CX : CXT} {k : Nat} {f : Addr} {fd : FuncData} {ps ks : List Str} {l : List Nat} {sp : Sp} {E : XK} {x : Str} {p pos : Pos} {kws : List Keyword} {tk : TA} {m : Nat}
    (F : FnOk X.prog X.w X.K X.mg X.base CX k f fd ps sp) (hr : Room k X.A) (hg : Gl X x) (hm : X.mg x = some (.ref f)) (hk : PySem.W.keepIn X.K (.ref f) = true) (hb : KwB X.K fd ps ks l) (hx : Passes CX X E)
    (hkw : PK X kws tk) (hall : (backToKw pos (keywordEach kws X.env)).all (·.1.isSome) = true := by rfl) (hks : (backToKw pos (keywordEach kws X.env)).filterMap (·.1) = ks := by rfl)
    (hm' : m = ks.length := by rfl) (hdb : (x == ("__debug__" : Str)) = false := by decide)
    (hpl : ((backTo pos (starEach [] X.env)).any (·.1) || (backToKw pos (keywordEach kws X.env)).any (·.1.isNone)) = false := by rfl) :
    PE X (.Call (.Name x p) [] kws pos) (tCallKw sp l m E tk) := by
  subst hm'
  refine ⟨fun pins s σ H Q I h => ?_⟩
  refine wpAny_Call_Name_kw (ld_glob I hg hm ?_ hdb)
  refine PySem.W.callWith_KW0 (h₀ := X.base) I.ok.mod.kin hk hall (thn (hkw.run pos pins s σ H _ I h) fun ws s2 ⟨zs, H2, I2, rz, hl, q2⟩ => ⟨I2.kIn, ?_⟩) hpl
  rw [hks]
  have r2 := perm_rel l rz
  refine wpAny_call (codeAny_mono (F.run X.A X.stack s2 H2 ⟨[], ks.zip ws⟩ (perm l ws) (perm l zs) Q E hr I2.env0 (hb s2 ws I2.kIn (by rw [← rz.length]; exact hl)) r2 q2) fun r s' hq => ?_)
  cases r with
  | error e => exact hx pins σ H2 s2 e s' I2 hq
  | ok fl =>
    cases fl with
    | ret u => exact I2.after hq
    | next => exact False.elim hq
    | brk => exact False.elim hq
    | cont => exact False.elim hq
end B
/-! B: rules that the kit has not: zip of a text and a tuple, sum of a tuple, tuple * 1, d.values() as a value -/
namespace B
open PySem L2 PySem.Spec PyProof.Rows
/-! ### zip(text, tuple) -/
def ItzS (K : Fg) (x : Str) (b : Addr) (n : Nat) : It :=
  ⟨fun i H => i < x.cps.size ∧ i < n ∧ ∃ ys : List V, SqT K H b ys ∧ ys.length = n,
    fun i H v H' => ∃ T c y, v = .ref T ∧ H T = none ∧ H' = upd H T (.tup [.str ⟨#[c]⟩, y]) ∧ x.cps[i]? = some c ∧ ∀ ys, SqT K H b ys → ys[i]? = some y,
    fun i H => (x.cps.size ≤ i ∨ n ≤ i) ∧ ∃ ys : List V, SqT K H b ys ∧ ys.length = n⟩
def ZsTn (x : Str) (t : Tok) (b z TI TO i1 i2 : Addr) (n i : Nat) (h : Heap) : Prop := IsZip h z TI TO .none ∧ IsPair h TI (.ref i1) (.ref i2) ∧ (∃ x y, IsPair h TO x y) ∧ h.IsStrIter i1 (strIterType x) x t i ∧ h.IsTupleIter i2 b i ∧ i ≤ x.cps.size ∧ i ≤ n
theorem ti_ne {h : Heap} {i2 b : Addr} {i : Nat} {its : Array Value} (h2 : h.IsTupleIter i2 b i) (p : IsTup h b its) : b ≠ i2 := fun e => by
  obtain ⟨o, ho, hcls, hdat⟩ := id h2
  obtain ⟨o', ho', hc', _⟩ := p
  rw [e, ho] at ho'
  cases ho'
  rw [hcls] at hc'
  have := Value.type.inj hc'
  revert this
  decide
theorem turn_zipS {P : Program} {w : World} {K : Fg} {elts : List Expr} {kk : Nat} {tpos : Pos} {x : Str} {t : Tok} {b z TI TO i1 i2 : Addr} {n : Nat} (D : ZipSep2 z TI TO i1 i2 [i1] [i2, b]) :
    Turn P w K (.Tuple elts kk tpos) (ItzS K x b n) [z, TI, TO, i1, i2] z (ZsTn x t b z TI TO i1 i2 n) where
  mem := by simp
  obj := fun i h st c hc => by
    obtain ⟨hz, hTI, ⟨x, y, hTO⟩, ⟨o1, e1, _, d1⟩, ⟨o2, e2, _, d2⟩, _, _⟩ := st
    simp only [List.mem_cons, List.not_mem_nil, or_false] at hc
    rcases hc with q | q | q | q | q <;> rw [q]
    · exact ⟨_, hz, fun v q => nomatch q⟩
    · exact ⟨_, hTI, fun v q => nomatch q⟩
    · exact ⟨_, hTO, fun v q => nomatch q⟩
    · exact ⟨o1, e1, fun v q => by rw [d1] at q; cases q⟩
    · exact ⟨o2, e2, fun v q => by rw [d2] at q; cases q⟩
  keep := fun i h h' st k => by
    obtain ⟨hz, hTI, ⟨x, y, hTO⟩, ⟨o1, e1, r1⟩, h2, l1, l2⟩ := st
    exact ⟨k z (by simp) _ hz, k TI (by simp) _ hTI, ⟨x, y, k TO (by simp) _ hTO⟩, ⟨o1, k i1 (by simp) _ e1, r1⟩, h2.at fun o q => k i2 (by simp) o q, l1, l2⟩
  item := by
    intro X hP hw hK hc i pins s σ H E I hf st hg
    subst hP hw hK
    obtain ⟨hz, hTI, ⟨x0, y0, hTO⟩, h1, h2, l1, l2⟩ := st
    obtain ⟨g1, g2, ys, hqy, hn⟩ := hg
    obtain ⟨its, rv, p, _⟩ := I.tuple hqy
    have hl : its.length = n := by rw [← rv.length]; exact hn
    have hd : X.A.in1.handled = none := I.ok.hd hc
    refine wpAny_pyNext_zipD2_item D (Draws.text hd i1 x t) (Draws.tuple hd i2 b (ti_ne h2 p) its.toArray) hz hTI hTO h1 ⟨h2, p⟩ g1 (by simpa [hl] using g2) fun u1 u2 h' tk y1 y2 b1 b2 d1 d2 b5 b6 hk => ?_
    have hzl : z < s.heap.objs.size := Heap.lt_size hz
    obtain ⟨c, tc, hcx, rfl⟩ := y1
    obtain ⟨y, hy, ry⟩ : ∃ y, ys[i]? = some y ∧ RelV y u2 := by
      have e2 : its[i]? = some u2 := by simpa using y2
      have hy : ys[i]? = some (ys[i]'(by omega)) := List.getElem?_eq_getElem (by omega)
      obtain ⟨u, e3, r⟩ := rv.get hy
      rw [e2] at e3
      cases e3
      exact ⟨_, hy, r⟩
    refine ⟨_, rfl, wpAny_letOwnedTupleGo_zip (s := { s with heap := h', toks := tk }) b1 fun h'' z'' sb => ?_⟩
    have hT2 : h''.get? s.heap.objs.size = some { cls := .type "tuple", data := .seq #[.str ⟨#[c]⟩ tc, u2] } := (sb.2 _ (Nat.ne_of_gt hzl)).trans b5
    have new : ObjOk X.prog X.w (upd H s.heap.objs.size (.tup [.str ⟨#[c]⟩, y])) h'' s.heap.objs.size (.tup [.str ⟨#[c]⟩, y]) :=
      ⟨by show 2 ≤ sizeLine; decide, [.str ⟨#[c]⟩ tc, u2], .cons ⟨tc, rfl⟩ (.cons ry .nil), ⟨_, hT2, rfl, _, rfl⟩⟩
    have I1 : Inv X pins σ (upd H s.heap.objs.size (.tup [.str ⟨#[c]⟩, y])) { s with heap := h'', toks := tk } :=
      I.turnedNew (t' := tk) (ch := [z, TI, TO, i1, i2]) (fun c o hb q => (sb.2 c (fun q' => hb (by simp [q']))).trans (hk c o (fun q' => hb (by simp [q'])) (fun q' => hb (by simp [q'])) (fun q' => hb (by simp [q'])) (fun q' => hb (by simp [q'])) q)) hf (Nat.le_refl _) new
    refine ⟨.ref s.heap.objs.size, _, I1, rfl, ⟨_, c, y, rfl, I.hok.fresh (Nat.le_refl _), rfl, hcx, fun l hl => by rw [I.tuple_inj hl hqy]; exact hy⟩, ⟨z'', ?_, ⟨Value.str ⟨#[c]⟩ tc, u2, ?_⟩, ?_, ?_, by omega, by omega⟩, fun c hcm => ?_⟩
    · exact (sb.2 _ D.TIz).trans (hk _ _ D.TIz D.TITO D.TIi1 D.TIi2 hTI)
    · exact (sb.2 _ D.TOz).trans b2
    · obtain ⟨o, ho, r⟩ := d1
      exact ⟨o, (sb.2 _ D.zi1.symm).trans ho, r⟩
    · exact d2.1.at fun o q => (sb.2 _ D.zi2.symm).trans q
    · have hlt : c < s.heap.objs.size := by
        simp only [List.mem_cons, List.not_mem_nil, or_false] at hcm
        rcases hcm with q | q | q | q | q <;> rw [q]
        · exact hzl
        · exact Heap.lt_size hTI
        · exact Heap.lt_size hTO
        · obtain ⟨_, e1, _⟩ := h1; exact Heap.lt_size e1
        · obtain ⟨_, e2, _⟩ := h2; exact Heap.lt_size e2
      rw [upd_ne (Nat.ne_of_lt hlt)]
      exact (hf c hcm).1
  done := by
    intro X hP hw hK hc i pins s σ H E I hf st hg
    subst hP hw hK
    obtain ⟨hz, hTI, ⟨x0, y0, hTO⟩, h1, h2, l1, l2⟩ := st
    obtain ⟨hend, ys, hqy, hn⟩ := hg
    obtain ⟨its, rv, p, _⟩ := I.tuple hqy
    have hl : its.length = n := by rw [← rv.length]; exact hn
    have hd : X.A.in1.handled = none := I.ok.hd hc
    have hne : b ≠ i2 := ti_ne h2 p
    have hs : its.toArray.size = n := by simpa using hl
    exact wpAny_pyNext_zipD2_end D (Draws.text hd i1 x t) (Draws.tuple hd i2 b hne its.toArray) hz hTI hTO h1 ⟨h2, p⟩ l1 (by omega) (by omega) fun h' tk hk => ⟨rfl, I.turnedL (t' := tk) (ch := [z, TI, TO, i1, i2]) (fun c o hb q =>
      hk c o (fun q' => hb (by simp [q'])) (fun q' => hb (by simp [q'])) (fun q' => hb (by simp [q'])) (fun q' => hb (by simp [q'])) q) hf⟩
  self := fun A i s Q E st h => wpAny_pyIter_zip st.1 h
theorem zsep {n b : Nat} (h : b < n) : ZipSep2 (n + 4) (n + 2) (n + 3) n (n + 1) [n] [n + 1, b] where
  TIz := Nat.ne_of_lt (by omega)
  TOz := Nat.ne_of_lt (by omega)
  TITO := Nat.ne_of_lt (by omega)
  TIi1 := Nat.ne_of_gt (by omega)
  mem1 := List.mem_cons_self
  zf1 := fun q => absurd (List.mem_singleton.mp q) (Nat.ne_of_gt (by omega))
  Tf1 := fun q => absurd (List.mem_singleton.mp q) (Nat.ne_of_gt (by omega))
  TIi2 := Nat.ne_of_gt (by omega)
  mem2 := List.mem_cons_self
  zf2 := fun q => by rcases List.mem_cons.mp q with e | q; exact absurd e (Nat.ne_of_gt (by omega)); exact absurd (List.mem_singleton.mp q) (Nat.ne_of_gt (by omega))
  Tf2 := fun q => by rcases List.mem_cons.mp q with e | q; exact absurd e (Nat.ne_of_gt (by omega)); exact absurd (List.mem_singleton.mp q) (Nat.ne_of_gt (by omega))
  sep1_2 := fun q => by rcases List.mem_cons.mp q with e | q; exact absurd e (Nat.ne_of_lt (by omega)); exact absurd (List.mem_singleton.mp q) (Nat.ne_of_gt (by omega))
  sep2_1 := fun q => absurd (List.mem_singleton.mp q) (Nat.ne_of_gt (by omega))
def iZipS (K : Fg) (ta : TA) : TI := fun σ H R => ta σ H fun vs H1 => ∃ x b ys, vs = [.str x, .ref b] ∧ SqT K H1 b ys ∧ R (ItzS K x b ys.length) H1
theorem pi_zipS {X : Cx} {e e2 : Expr} {ta : TA} {p pos tpos : Pos} {elts : List Expr} {kk : Nat} (hg : Gl X "zip") (hm : X.mg "zip" = none) (ha : PA X [e, e2] ta)
    (hs : starEach [e, e2] X.env = (false, eval e X.env) :: starEach [e2] X.env := by rfl) (hpl : (backTo pos (starEach [e2] X.env)).any (·.1) = false := by rfl) :
    PI X (.Tuple elts kk tpos) (.Call (.Name "zip" p) [e, e2] [] pos) (iZipS X.K ta) := by
  refine ⟨fun pins s σ H R I h => ?_⟩
  refine Call_ (ld_blt I hg hm PyProof.Rows.boot_zip (PyProof.Rows.callWith_type1 (thn (ha.run pos pins s σ H _ I h) fun us s1 ⟨vs, H1, I1, r1, q1⟩ => ?_) hs hpl))
  obtain ⟨x, b, ys, ex, hqy, q⟩ := q1
  subst ex
  cases r1 with
  | cons r rr =>
    cases rr with
    | cons r' rr =>
      cases rr
      obtain ⟨t, rfl⟩ := r
      cases r'
      obtain ⟨its, rv, p, _⟩ := I1.tuple hqy
      have lb : b < s1.heap.objs.size := by obtain ⟨o, ho, _⟩ := id p; exact Heap.lt_size ho
      refine zip_begins2 (begins_text x t) (begins_tuple b its.toArray) trivial p fun h' hz hTI hTO g1 g2 hsz hk => wpAny_pyIter_zip hz ?_
      have I2 : Inv X pins σ H1 { s1 with heap := h' } := I1.kept (t' := s1.toks) hk
      have fresh5 : ∀ c, c ∈ [s1.heap.objs.size + 4, s1.heap.objs.size + 2, s1.heap.objs.size + 3, s1.heap.objs.size, s1.heap.objs.size + 1] → FpOk X pins H1 c := fun c hcm => by
        have hle : s1.heap.objs.size ≤ c := by
          simp only [List.mem_cons, List.not_mem_nil, or_false] at hcm
          omega
        exact I1.fpOk hle (I1.hok.fresh hle)
      exact ⟨s1.heap.objs.size + 4, [s1.heap.objs.size + 4, s1.heap.objs.size + 2, s1.heap.objs.size + 3, s1.heap.objs.size, s1.heap.objs.size + 1], _, _, H1, rfl, I2, turn_zipS (t := t) (i1 := s1.heap.objs.size) (i2 := s1.heap.objs.size + 1) (TI := s1.heap.objs.size + 2) (TO := s1.heap.objs.size + 3) (zsep lb), ⟨hz, hTI, ⟨_, _, hTO⟩, ⟨_, g1, rfl, rfl⟩, ⟨_, g2, rfl, rfl⟩, Nat.zero_le _, Nat.zero_le _⟩, fresh5, q⟩

/-! ### d.values() as a value -/
def viewHO (v a : Addr) : HO := .ext fun h => h.get? v = some { cls := .type "dict_values", data := .fields #[.ref a] }
def tVals (td : TE) : TE := fun σ H Q => td σ H fun x H1 => ∃ a kvs, x = V.ref a ∧ H1 a = some (.dK kvs) ∧ ∀ v, H1 v = none → Q (.ref v) (upd H1 v (viewHO v a))
section
variable {X : Cx} {o : Expr} {apos mpos : Pos} {td : TE}
theorem pe_vals (hd : PE X o td) (hbase : attributeBase o "values" X.env (eval o X.env) = eval o X.env := by rfl) (hline : (apos.endLine == mpos.line) = true := by rfl) : PE X (.Call (.Attribute o "values" apos) [] [] mpos) (tVals td) := by
  refine ⟨fun pins s σ H Q I h => ?_⟩
  refine wpAny_Call_method0_late hbase hline (thn (hd.run pins s σ H _ I h) fun v s1 ⟨x, H1, I1, r1, a, kvs, ex, ha, q⟩ => ?_)
  subst ex
  obtain rfl : v = Value.ref a := r1
  obtain ⟨_, hsys, vs, rel, dof⟩ := dk_of I1.hok ha
  obtain ⟨ep, dat⟩ := dof.dictAt
  obtain ⟨ob, es, ho, ex, hdat, hko, hpr, hnd⟩ := dat
  refine ⟨"dict", "dict.values", F.plainAttrs_dict, F.slot_dict_values, F.type_dict_values, ⟨ob, ho, ex.1⟩, fun b e => ?_, Calls.callWith_builtin rfl (PySem.evalArgs_none ?_)⟩
  · cases e
    exact ⟨ob, ho, ex.2.1⟩
  refine call_meetsIn F.slot_dict_values ⟨ob, ho, ex.1⟩ F.entry_dict_values (F.args_dict_values_1 _) (meets_dict_values (mixKind X.prog X.w) a hsys) ⟨⟨vs, dof⟩, ?_⟩
  have k1 : ∀ b u, s1.heap.get? b = some u → (s1.heap.push { cls := .type "dict_values", data := .fields #[.ref a] }).get? b = some u := fun b u e => Heap.get?_push_of_some _ e
  have new : ObjOk X.prog X.w (upd H1 s1.heap.objs.size (viewHO s1.heap.objs.size a)) (s1.heap.push { cls := .type "dict_values", data := .fields #[.ref a] }) s1.heap.objs.size (viewHO s1.heap.objs.size a) :=
    ⟨Heap.get?_push_size _ rfl, ⟨_, Heap.get?_push_size _ rfl⟩, fun h1 h2 e k => k _ e⟩
  exact ⟨.ref _, _, I1.laid (t' := s1.toks) k1 (Nat.le_refl _) new, rfl, q _ (I1.hok.fresh (Nat.le_refl _))⟩
/-- the ints of a dict's values, by the view -/
theorem view_at {pins : List (Addr × Obj)} {s : Shared} {σ : L2.St} {H : Hp} (I : L2.Inv X pins σ H s) {v a : Addr} {kvs : List (Key × V)} {is : List Int} (hv : H v = some (viewHO v a)) (ha : H a = some (.dK kvs)) (hi : kvs.map (·.2) = is.map V.int) :
    ∃ vs ep, s.heap.get? v = some { cls := .type "dict_values", data := .fields #[.ref a] } ∧ s.heap.DictAt (mixKind X.prog X.w) a vs ep ∧ vs.length = is.length ∧ kvs.length ≤ sizeLine ∧ ∀ (i : Nat) (u : Value), (∃ k, vs[i]? = some (k, u)) → ∃ x t, is[i]? = some x ∧ u = Value.int x t := by
  obtain ⟨e, _, _⟩ := I.hok v _ hv
  obtain ⟨z, hsys, vs, rel, dof⟩ := dk_of I.hok ha
  obtain ⟨ep, dat⟩ := dof.dictAt
  refine ⟨vs, ep, e, dat, ?_, z, fun i u ⟨k, hk⟩ => ?_⟩
  · have e1 := congrArg List.length hi
    rw [List.length_map, List.length_map] at e1
    rw [← e1]
    exact (KV.length rel).symm
  · obtain ⟨x, h1, h2⟩ := KV.at' rel hk
    have e1 : (kvs.map (·.2))[i]? = some x := by rw [List.getElem?_map, h1] <;> rfl
    rw [hi, List.getElem?_map] at e1
    obtain ⟨j, hj, e2⟩ := Option.map_eq_some_iff.mp e1
    subst e2
    obtain ⟨t, e3⟩ := h2
    exact ⟨j, t, hj, e3⟩
/-- sum(d.values()) -/
def rSumV : List V → Hp → VK → Prop := fun vs H Q => ∃ (v a : Addr) (kvs : List (Key × V)) (is : List Int), vs = [V.ref v] ∧ H v = some (viewHO v a) ∧ H a = some (.dK kvs) ∧ kvs.map (·.2) = is.map V.int ∧ Q (.int is.sum) H
theorem preSum_getD (is : List Int) : ∀ n, n ≤ is.length → preSum (fun i => is.getD i 0) n = (is.take n).sum
  | 0, _ => by simp [preSum]
  | n + 1, h => by
    show preSum _ n + is.getD n 0 = _
    rw [preSum_getD is n (by omega), List.take_add_one, List.getElem?_eq_getElem (by omega), List.sum_append]
    simp [List.getD_eq_getElem?_getD, List.getElem?_eq_getElem (show n < is.length by omega)]
theorem cr_sumV (hc : X.calm = true) : CallR X (.builtin "sum") rSumV := by
  intro pins s σ H xs us Q I r h
  obtain ⟨v, a, kvs, is, rfl, hv, ha, hi, q⟩ := h
  obtain rfl := Vals.ref1 r
  obtain ⟨vs, ep, e, dat, hl, _, hval⟩ := view_at I hv ha hi
  refine call_sum_walkAnyS ?_
  obtain ⟨oI, St, hit, W, st⟩ := (PySem.W.kdl_values (prog := X.prog) (w := X.w) (knd := mixKind X.prog X.w) (d := a) (r := v) (kvs := vs) (ep := ep)).iter X.A.in1 s (I.ok.hd hc) ⟨⟨_, e, rfl, rfl⟩, dat⟩
  refine hit _ _ ⟨s.heap.objs.size, _, _, _, vs.length, _, _, fun i => is.getD i 0, rfl, W.toS, st, fun b hb => ?_, fun i u hu => ?_, fun s' t' hm => ?_⟩
  · show b < (s.heap.push oI).objs.size
    rw [Heap.size_push]
    rcases List.mem_cons.mp hb with e' | hb
    · rw [e']; exact Nat.lt_succ_self _
    · rw [List.mem_singleton.mp hb]; exact Nat.lt_succ_of_lt (by obtain ⟨ob, es, ho, _⟩ := id dat; exact Heap.lt_size ho)
  · obtain ⟨x, t, h1, h2⟩ := hval i u hu
    exact ⟨t, by rw [h2]; show Value.int x t = Value.int (is.getD i 0) t; rw [List.getD_eq_getElem?_getD, h1]; rfl⟩
  · have hk : ∀ b o, s.heap.get? b = some o → s'.heap.get? b = some o := fun b o e =>
      hm.heap b o (fun hI => absurd (Heap.lt_size e) (by rw [List.mem_singleton.mp hI]; exact Nat.lt_irrefl _)) (Heap.get?_push_of_some _ e)
    rw [Moved.eq_with hm]
    refine ⟨.int is.sum, H, I.kept hk, ⟨t', ?_⟩, q⟩
    rw [hl, preSum_getD is _ (Nat.le_refl _), List.take_length]
end

/-! ### sorted(d.values(), reverse=True) -/
section
variable {X : Cx}
def rSortedVR : List V → List V → Hp → VK → Prop := fun vs zs H Q => ∃ (v a : Addr) (kvs : List (Key × V)) (is : List Int), vs = [V.ref v] ∧ zs = [.bl true] ∧ H v = some (viewHO v a) ∧ H a = some (.dK kvs) ∧ kvs.map (·.2) = is.map V.int ∧
  ∀ (ns' : List Int) (p : Addr), ns'.Perm is → OrdB true ns' → H p = none → Q (.ref p) (upd H p (.lst (ns'.map V.int)))
theorem cr_sortedVR (hc : X.calm = true) : CallRK X (.builtin "sorted") [Str.ofString "reverse"] rSortedVR := by
  intro pins s σ H xs zs us ws Q I r rz h
  obtain ⟨v, a, kvs, is, rfl, rfl, hv, ha, hi, q⟩ := h
  obtain rfl := Vals.ref1 r
  obtain ⟨w1, rfl, e1⟩ := vals1 rz
  obtain rfl : w1 = Value.bool true := e1
  obtain ⟨vs, ep, e, dat, hl, hz, hval⟩ := view_at I hv ha hi
  have hz2 : vs.length ≤ sizeLine := by
    rw [hl]
    have := congrArg List.length hi
    rw [List.length_map, List.length_map] at this
    rw [← this]; exact hz
  refine call_function_entry_kw kind_sorted plain_sorted entry_sorted (PyProof.Rows.args_sorted_rev _ _) ?_
  unfold Builtin.«sorted»
  refine wpAny_bind (m := checkCount "sorted" 1 1 _) (wpAny_pure ?_)
  refine wpAny_bind (PySem.W.kdu_collect (A := X.A.in1) (PySem.W.kdl_values (prog := X.prog) (w := X.w) (knd := mixKind X.prog X.w) (d := a) (r := v) (kvs := vs) (ep := ep)) (I.ok.hd hc) ⟨⟨_, e, rfl, rfl⟩, dat⟩ hz2 fun h' tk acc hk hacc => ?_)
  have hal : acc.toList.length = is.length := by rw [Array.length_toList, hacc.1, hl]
  have hS : IntsAre acc.toList is := ints_each hal fun j u e => hval j u (hacc.2 j u (by rw [← Array.getElem?_toList]; exact e))
  have I1 : Inv X pins σ H { s with heap := h', toks := tk } := I.kept hk
  refine wpAny_bind (wpAny_newList ?_ (by rw [hal, ← hl]; exact hz2))
  have hoL : (h'.push (seqObj "list" acc.toList.toArray 0)).get? h'.objs.size = some (seqObj "list" acc.toList.toArray 0) := Heap.get?_push_size _ rfl
  show wpAny _ _ _ _ _ { s with heap := h'.push (seqObj "list" acc.toList.toArray 0), toks := tk }
  refine wpAny_bind (wpAny_holding (wpAny_call_entry_kw slot_list_sort ⟨_, hoL, rfl⟩ entry_list_sort ?_ (PyProof.Rows.args_list_sort_rev _ _)))
  refine SrtR.list_sort_ordR (b := true) SrtO.swo_int hoL (by rw [hal, ← hl]; exact hz2) (fun h2 => SrtO.ints_sortable hS h2) fun out h1 h2 => ⟨_, rfl, ?_⟩
  obtain ⟨ns', k1, k2, k3⟩ := SrtR.ints_outR (b := true) hS h1 h2
  obtain ⟨e', he'⟩ := PyProof.Rows.sortedHeap_at (vs := acc.toList) (out := out.toArray.reverse) hoL
  have hlen : (ns'.map V.int).length ≤ sizeLine := by
    rw [List.length_map, k2.length_eq, ← hl]
    exact hz2
  refine wpAny_pure ⟨_, rfl, .ref h'.objs.size, upd H h'.objs.size (.lst (ns'.map V.int)), I1.laid (t' := tk) (fun b u e => ?_) (Nat.le_refl _)
    (show ObjOk X.prog X.w _ _ _ (.lst (ns'.map V.int)) from ⟨hlen, out.toArray.reverse.toList, e', vals_of_ints k1, by rw [Array.toArray_toList]; exact he'⟩), rfl, q ns' _ k2 k3 (I1.hok.fresh (Nat.le_refl _))⟩
  have hb : b < h'.objs.size := Heap.lt_size e
  show (sortedHeap _ _ _ out.toArray.reverse).get? b = _
  rw [PyProof.Rows.sortedHeap_old (Nat.ne_of_lt hb) (by rw [size_push']; exact Nat.lt_succ_of_lt hb)]
  exact Heap.get?_push_of_some _ e
/-! ### sum(tuple) -/
def rSumT (K : Fg) : List V → Hp → VK → Prop := fun vs H Q => ∃ (a : Addr) (ns : List Int), vs = [V.ref a] ∧ SqT K H a (ns.map V.int) ∧ Q (.int ns.sum) H
theorem cr_sumT (hc : X.calm = true) : CallR X (.builtin "sum") (rSumT X.K) := by
  intro pins s σ H xs us Q I r h
  obtain ⟨a, ns, rfl, hs, q⟩ := h
  obtain ⟨its, rv, hl, _⟩ := I.tuple hs
  obtain rfl := Vals.ref1 r
  have hi := rv.ints
  obtain ⟨xs, hx⟩ := hi.allInts.items
  have hn : numsOf its.toArray.toList = ns := by rw [show its.toArray.toList = its from rfl, hi.numsOf]
  have hl' : s.heap.IsTuple a its.toArray := hl
  rw [hx] at hl' hn
  rw [nums_intItems] at hn
  refine PySem.W.ktm_sumG (I.ok.hd hc) hl' fun h' tk t' hk => ⟨.int ns.sum, H, I.kept hk, ⟨t', ?_⟩, q⟩
  rw [preSum_eq, List.take_of_length_le (by simp), hn]
/-! ### tuple * k, k from 1 on -/
theorem tuple_mul1 (l : Addr) (items : Array Value) (n : Nat) (dd : Option Addr) (sl : Array (Option Value)) (u : Tok) :
    Meets (Builtin.«tuple.__mul__» ⟨[.ref l, .int 1 u], []⟩) (fun _ R s => s.heap.get? l = some { cls := .type "tuple", dict := dd, data := .seq items n, slots := sl } ∧ R (.ok (.ret (Value.ref l))) s) :=
  .of_wp fun prog w A R s h => by
    obtain ⟨hp, g, d, tk, os⟩ := s
    obtain ⟨hl, h⟩ := h
    have f1 := AutoSeq1.idx_int
    have hT : (⟨hp, g, d, tk, os⟩ : Shared).TypeIs (.ref l) "tuple" := ⟨_, hl, rfl⟩
    wp_walk using wpAny_loadPart' hl
    exact ⟨_, rfl, h⟩
def rRepT1 (K : Fg) : R2 := fun x y H Q => ∃ l k xs, x = .ref l ∧ y = .int k ∧ SqT K H l xs ∧ xs ≠ [] ∧ 1 ≤ k ∧ k ≤ 1000 ∧ xs.length ≤ 1000 ∧ (k = 1 → Q (.ref l) H) ∧ (2 ≤ k → ∀ p, H p = none → Q (.ref p) (upd H p (.tup (List.replicate k.toNat xs).flatten)))
theorem op_repT1 : OpR X (binaryOp .Mult) (rRepT1 X.K) := by
  intro pins s σ H x y v u Q I rx ry h
  obtain ⟨l, k, xs, rfl, rfl, hT, hne, h1, h2, hz, q1, q2⟩ := h
  by_cases hk : k = 1
  · cases rx
    obtain ⟨t, rfl⟩ := ry
    subst hk
    obtain ⟨its, r, ⟨⟨cls, dd, data, sl⟩, ho, hc, n, hd⟩, hs⟩ := I.tuple hT
    simp only at hc hd
    subst hc hd
    exact wpAny_binaryOp_repeat_ref (T := "tuple") (U := "int") (by decide) ⟨_, ho, rfl⟩ (fun s' => typeIs_int s' 1 t) noFill_tuple_mul F.fills_int_mul F.slot_int_rmul repeat_tuple F.slot_int_index.lookup
      (call_meets F.slot_int_rmul (typeIs_int s 1 t) F.entry_int_rmul (F.args_int_rmul_2 _ _) (int_rmul_tuple 1 t l its.toArray n dd sl)
        ⟨ho, rfl, ⟨_, ho, rfl⟩, call_meets F.slot_tuple_mul ⟨_, ho, rfl⟩ F.entry_tuple_mul (F.args_tuple_mul_2 _ _) (tuple_mul1 l its.toArray n dd sl t) ⟨ho, .ref l, H, I, rfl, q1 rfl⟩⟩)
  · exact op_repT pins s σ H _ _ v u Q I rx ry ⟨l, k, xs, rfl, rfl, hT, hne, by omega, h2, hz, q2 (by omega)⟩
end
end B
/-! B: the layer over the rules of Bt; dicts that change -/
namespace B
open PySem L2
open PySem.W (Tup T3 T4 Datum DatumOrd)
open Evl (Ex)
section
variable {α β γ : Type} [Py α] [Py β] [Py γ] {K : Fg} {σ : SS} {W W' : Wd} {v : V} {te ta tb : TE} {ε : Ef}
theorem ro_cat {xs ys : List α} (hl : xs.length + ys.length ≤ 100000) : RO K rCat xs ys (xs ++ ys) := fun v u W1 ⟨a, vs, e, s, r⟩ ⟨b, us, e', s', r'⟩ Q k =>
  ⟨a, b, vs, us, e, e', W1.sub.el s, W1.sub.el s', Evl.sz_of (by rw [Reps.len r, Reps.len r']; exact hl), fun p hp =>
    k _ (W1.add p _) (W1.grow_add hp) ⟨p, _, rfl, upd_same, Reps.app (Reps.mono (exExt (W1.grow_add hp).b) r) (Reps.mono (exExt (W1.grow_add hp).b) r')⟩⟩
theorem reps_nil {H : Hp} {vs : List V} {xs : List α} (r : Reps K H vs xs) (h : vs = []) : xs = [] := by
  cases r with
  | nil => rfl
  | cons a b => cases h
theorem ro_catT {xs ys : Tup α} (hl : xs.items.length + ys.items.length ≤ 100000) : RO K (rCatA K) xs ys (Tup.mk (xs.items ++ ys.items)) := fun v u W1 ⟨a, vs, e, s, r⟩ ⟨b, us, e', s', r'⟩ Q k =>
  ⟨a, b, vs, us, e, e', SqT.of (W1.sub.et s), SqT.of (W1.sub.et s'), Evl.sz_of (by rw [Reps.len r, Reps.len r']; exact hl),
    fun h0 => k _ W1 (.refl _ _) ⟨b, us, rfl, s', by rw [reps_nil r h0]; exact r'⟩,
    fun _ h0 => k _ W1 (.refl _ _) ⟨a, vs, rfl, s, by rw [reps_nil r' h0, List.append_nil]; exact r⟩,
    fun _ _ p hp => k _ (W1.add p _) (W1.grow_add hp) ⟨p, _, rfl, upd_same, Reps.app (Reps.mono (exExt (W1.grow_add hp).b) r) (Reps.mono (exExt (W1.grow_add hp).b) r')⟩⟩
theorem rc_sumT {xs : Tup Int} : RC1 K (rSumT K) xs xs.items.sum := fun v W1 ⟨a, vs, e, s, r⟩ Q k => ⟨a, xs.items, by rw [e], by rw [← reps_int r]; exact SqT.of (W1.sub.et s), k _ W1 (.refl _ _) rfl⟩
theorem reps_rep {H : Hp} {vs : List V} {xs : List α} (r : Reps K H vs xs) : ∀ n : Nat, Reps K H (List.replicate n vs).flatten (List.replicate n xs).flatten
  | 0 => .nil
  | n + 1 => by
    rw [List.replicate_succ, List.replicate_succ, List.flatten_cons, List.flatten_cons]
    exact Reps.app r (reps_rep r n)
theorem ro_repT {xs : Tup α} {n : Int} (hne : xs.items ≠ []) (h1 : 1 ≤ n) (h2 : n ≤ 1000) (hl : xs.items.length ≤ 1000) : RO K (rRepT1 K) xs n (Tup.mk (List.replicate n.toNat xs.items).flatten) := fun v u W1 ⟨a, vs, e, s, r⟩ ru Q k =>
  ⟨a, n, vs, e, ru, SqT.of (W1.sub.et s), fun z => hne (reps_nil r z), h1, h2, by rw [Reps.len r]; exact hl, fun h => k _ W1 (.refl _ _) ⟨a, vs, rfl, s, by
      subst h
      simpa using r⟩, fun _ p hp => k _ (W1.add p _) (W1.grow_add hp) ⟨p, _, rfl, upd_same, Reps.mono (exExt (W1.grow_add hp).b) (reps_rep r _)⟩⟩
theorem rc_tupL {xs : List α} : RC1 K (rTupleO K) xs (Tup.mk xs) := fun v W1 ⟨a, vs, e, s, r⟩ Q k => ⟨a, vs, by rw [e], .inl ⟨SqL.of (W1.sub.el s), fun l hl =>
  k _ (W1.add l (.tup vs)) (W1.grow_add hl) ⟨l, vs, rfl, upd_same, Reps.mono (exExt (W1.grow_add hl).b) r⟩⟩⟩
/-- zip of two tuples -/
theorem ei_zipT {xs : Tup α} {ys : Tup β} (ha : EvR ε K ta σ W xs) (hb : EvR ε K tb σ W ys) : EvJ ε K (RZ.iZipA K (tCons ta (tCons tb tNil))) σ W (xs.items.zip ys.items) := fun W1 g1 R k => ha W1 g1 _ fun v W2 g2 r1 => hb W2 (g1.trans g2) _ fun u W3 g3 r2 => by
  obtain ⟨a, vs, e, s, r⟩ := rep_s g3 r1
  obtain ⟨b, us, e', s', r'⟩ := r2
  refine ⟨a, b, vs, us, by rw [e, e'], .inr ⟨SqT.of (W3.sub.et s), SqT.of (W3.sub.et s'), k (RZ.ItzT K a b) W3 (g2.trans g3) ⟨fun i W' o hi => ?_, fun i W' v H'' o hi ⟨T, x, y, e1, hT, e2, e3, e4⟩ => ?_, fun i W' o hi => ?_⟩⟩⟩
  · have hi' : i < xs.items.length ∧ i < ys.items.length := by simp at hi; omega
    obtain ⟨x, hx⟩ : ∃ x, xs.items[i]? = some x := ⟨xs.items[i], by simp [hi'.1]⟩
    obtain ⟨y, hy⟩ : ∃ x, ys.items[i]? = some x := ⟨ys.items[i], by simp [hi'.2]⟩
    obtain ⟨v, h1, _⟩ := Reps.get' r hx
    obtain ⟨u, h2, _⟩ := Reps.get' r' hy
    exact ⟨vs, us, v, u, SqT.of (W'.sub.et (o.b _ _ s)), SqT.of (W'.sub.et (o.b _ _ s')), h1, h2⟩
  · obtain ⟨p, h1, h2⟩ := Reps.get r (e3 vs (SqT.of (W'.sub.et (o.b _ _ s))))
    obtain ⟨q, h3, h4⟩ := Reps.get r' (e4 us (SqT.of (W'.sub.et (o.b _ _ s'))))
    refine ⟨(p, q), W'.add T _, e2.symm, W'.grow_add hT, ?_, T, x, y, e1, upd_same, rep_g (W'.grow_add hT) (rex o.b h2), rep_g (W'.grow_add hT) (rex o.b h4)⟩
    rw [List.getElem?_zip_eq_some]
    exact ⟨h1, h3⟩
  · refine ⟨vs, us, SqT.of (W'.sub.et (o.b _ _ s)), SqT.of (W'.sub.et (o.b _ _ s')), ?_⟩
    rw [Reps.len r, Reps.len r']
    simp at hi
    omega
def signs (x : Str) : List Str := x.cps.toList.map fun c => ⟨#[c]⟩
/-- zip of a text and a tuple -/
theorem ei_zipS {x : Str} {ys : Tup β} (ha : EvR ε K ta σ W x) (hb : EvR ε K tb σ W ys) : EvJ ε K (iZipS K (tCons ta (tCons tb tNil))) σ W ((signs x).zip ys.items) := fun W1 g1 R k => ha W1 g1 _ fun v W2 g2 r1 => hb W2 (g1.trans g2) _ fun u W3 g3 r2 => by
  have e : v = .str x := r1
  obtain ⟨b, us, e', s', r'⟩ := r2
  have hl := Reps.len r'
  have hs : (signs x).length = x.cps.size := by simp [signs]
  refine ⟨x, b, us, by rw [e, e'], SqT.of (W3.sub.et s'), k (ItzS K x b us.length) W3 (g2.trans g3) ⟨fun i W' o hi => ?_, fun i W' v H'' o hi ⟨T, c, y, e1, hT, e2, e3, e4⟩ => ?_, fun i W' o hi => ?_⟩⟩
  · rw [List.length_zip, hs] at hi
    exact ⟨by omega, by omega, us, SqT.of (W'.sub.et (o.b _ _ s')), rfl⟩
  · obtain ⟨q, h3, h4⟩ := Reps.get r' (e4 us (SqT.of (W'.sub.et (o.b _ _ s'))))
    refine ⟨(⟨#[c]⟩, q), W'.add T _, e2.symm, W'.grow_add hT, ?_, T, _, y, e1, upd_same, rfl, rep_g (W'.grow_add hT) (rex o.b h4)⟩
    rw [List.getElem?_zip_eq_some]
    refine ⟨?_, h3⟩
    unfold signs
    rw [List.getElem?_map, Array.getElem?_toList, e3]
    rfl
  · rw [List.length_zip, hs] at hi
    exact ⟨by omega, us, SqT.of (W'.sub.et (o.b _ _ s')), rfl⟩
theorem kreps_ints {κ : Type} [PyKey κ] {H : Hp} {ks : List (Key × V)} {kv : List (κ × Int)} (r : KReps K H ks kv) : ks.map (·.2) = (kv.map (·.2)).map V.int := by
  induction r with
  | nil => rfl
  | cons a b ih => rw [List.map_cons, List.map_cons, List.map_cons, ih, show _ = _ from a.2]
/-- sorted(d.values(), reverse=True): what falls with the same items -/
theorem ev_sortedVR {κ : Type} [PyKey κ] {d : Dict κ Int} {ys : List Int} (h : EvD ε K te σ W d) (hp : ys.Perm (d.kv.map (·.2))) (ho : ys.Pairwise (· ≥ ·)) : EvR ε K (tCKw rSortedVR (tCons (tVals te) tNil) (tCons (tC (.bl true)) tNil)) σ W ys := fun W1 g1 Q k => h W1 g1 _ fun v W2 g2 ⟨a, ks, e, hB, hH, r⟩ =>
  ⟨a, ks, e, hH, fun w hw => by
    have ne : a ≠ w := fun z => by rw [z, hw] at hH; cases hH
    have gw := W2.grow_put (o := viewHO w a) hw
    refine ⟨w, a, ks, d.kv.map (·.2), rfl, rfl, upd_same, (upd_ne ne).trans hH, kreps_ints r, fun ns' p h1 h2 hp0 => ?_⟩
    have e2 : ns' = ys := (h1.trans hp.symm).eq_of_pairwise (fun a b _ _ h h' => Int.le_antisymm h' h) (show ns'.Pairwise (· ≥ ·) from h2) ho
    subst e2
    exact k _ ((W2.put w _ (W2.free hw)).add p _) ((g2.and gw).and (Wd.grow_add _ hp0)) ⟨p, _, rfl, upd_same, int_reps _⟩⟩
theorem ev_sumV {κ : Type} [PyKey κ] {d : Dict κ Int} (h : EvD ε K te σ W d) : EvR ε K (tCB rSumV (tCons (tVals te) tNil)) σ W (d.kv.map (·.2)).sum := fun W1 g1 Q k => h W1 g1 _ fun v W2 g2 ⟨a, ks, e, hB, hH, r⟩ =>
  ⟨a, ks, e, hH, fun w hw => by
    have ne : a ≠ w := fun z => by rw [z, hw] at hH; cases hH
    exact ⟨w, a, ks, d.kv.map (·.2), rfl, upd_same, (upd_ne ne).trans hH, kreps_ints r, k _ (W2.put w _ (W2.free hw)) (g2.and (W2.grow_put hw)) rfl⟩⟩
end
/-- what is new may change unseen -/
theorem Md.fresh {S : List Addr} {W W1 W2 : Wd} {d : Addr} (a : Md S W W1) (b : Md (d :: S) W1 W2) (f : W.H d = none) : Md S W W2 := ⟨a.b.trans b.b, fun x o h1 h2 => b.l x o (a.b x o h1) (a.l x o h1 h2), fun x o h1 h2 => b.o x o (fun z => by
    rcases List.mem_cons.mp z with e | z
    · rw [e, f] at h2; cases h2
    · exact h1 z) (a.o x o h1 h2), fun x hx => by rw [b.m x (a.n x hx), a.m x hx], fun x hx => b.d x (a.d x hx), fun x hx => b.n x (a.n x hx)⟩
/-! ### dicts that change -/
structure DMut {κ α : Type} [PyKey κ] [Py α] (K : Fg) (W : Wd) (d : Addr) (kv : List (κ × α)) : Prop where
  b : W.B d = none
  ex : ∃ ks, W.H d = some (.dK ks) ∧ KReps K W.B ks kv
section
variable {κ α : Type} [DecidableEq κ] [PyKey κ] [Py α] {K : Fg} {W W' : Wd} {d : Addr} {kv : List (κ × α)} {ε : Ef} {σ : SS} {S : List Addr} {ty tv tx te : TE}
theorem DMut.nt (m : DMut K W d kv) : Nt W.H d := by
  obtain ⟨ks, e, _⟩ := m.ex
  exact .k e
theorem DMut.g (m : DMut K W d kv) (g : Md S W W') (h : d ∉ S) : DMut K W' d kv := by
  obtain ⟨ks, e, r⟩ := m.ex
  have := g.mut h e m.b
  exact ⟨this.2, ks, this.1, KReps.mono (exExt g.b) r⟩
theorem DMut.gr (m : DMut K W d kv) (g : Grow W W') : DMut K W' d kv := m.g g (by simp)
theorem DMut.s (m : DMut K W d kv) (g : Stp ε W W') (h : d ∉ ε.S) : DMut K W' d kv := m.g g.md h
theorem DMut.new (W : Wd) {d : Addr} (h : W.H d = none) : DMut K (W.put d (.dK []) (W.free h)) d ([] : List (κ × α)) := ⟨W.free h, [], upd_same, .nil⟩
/-- d[k] = v -/
theorem s_dput {D : Ends} {i : Nat} {k : κ} {x : α} (hd : σ[i]? = some (some (.ref d))) (m : DMut K W d kv) (hv : EvR pur K tv σ W x) (hk : EvP pur ty σ W (fun u _ => u = kV (PyKey.key k))) (hl : kv.length < 100000)
    (q : ∀ W', Md [d] W W' → On W W' → DMut K W' d (kput kv k x) → D.nx σ W'.H) : sDPut (tVar i) ty tv D σ W.H := hv W (.start trivial) _ fun v W1 g1 rv => ⟨.ref d, hd, hk W1 g1 _ fun u W2 g2 e => by
  have g := (g1.trans g2).pure
  obtain ⟨ks, e1, r⟩ := (m.gr g).ex
  have b := (m.gr g).b
  refine ⟨d, _, rfl, .inl ⟨ks, PyKey.key k, e1, e, by rw [KReps.len r]; exact Evl.sz_lt hl, rfl⟩, q (W2.put d _ b) ((Grow.s g).trans (md_put b)) (g.on.trans (md_put b).on) ⟨b, _, upd_same, KReps.put r k (rep_s g2 rv)⟩⟩⟩
theorem ek_of [Py κ] {k : κ} (hv : ∀ {H : Hp} {v : V}, rep K H v k → v = kV (PyKey.key k)) (h : EvR ε K te σ W k) : EvP ε te σ W (fun u _ => u = kV (PyKey.key k)) := fun W1 g1 Q q => h W1 g1 _ fun v W2 g2 r => q v W2 g2 (hv r)
theorem ek_int {n : Int} (h : EvR ε K te σ W n) : EvP ε te σ W (fun u _ => u = kV (PyKey.key n)) := ek_of (fun r => r) h
theorem ek_str {n : Str} (h : EvR ε K te σ W n) : EvP ε te σ W (fun u _ => u = kV (PyKey.key n)) := ek_of (fun r => r) h
theorem klk {H : Hp} {ks : List (Key × V)} (r : KReps K H ks kv) (k : κ) : (klook kv k = none ∧ valV ks (PyKey.key k) = none) ∨ ∃ x v, klook kv k = some x ∧ valV ks (PyKey.key k) = some v ∧ rep K H v x := by
  cases e : klook kv k with
  | none => exact .inl ⟨rfl, r.none e⟩
  | some x =>
    obtain ⟨v, h1, h2⟩ := r.some e
    exact .inr ⟨x, v, rfl, h1, h2⟩
/-- d.get(k, x) -/
theorem ev_dget2 {i : Nat} {k : κ} {x : α} (hd : σ[i]? = some (some (.ref d))) (m : DMut K W d kv) (hS : d ∉ ε.S) (hk : EvP ε ty σ W (fun u _ => u = kV (PyKey.key k))) (hx : EvR ε K tx σ W x) : EvR ε K (tDGet2 (tVar i) ty tx) σ W ((klook kv k).getD x) := fun W1 g1 Q q => by
  obtain ⟨ks, e1, r⟩ := (m.s g1 hS).ex
  refine ⟨_, hd, d, rfl, .inl ⟨ks, .inl e1⟩, hk W1 g1 _ fun u W2 g2 eu => hx W2 (g1.trans g2) _ fun w W3 g3 rw => ?_⟩
  obtain ⟨ks, e3, r⟩ := (m.s ((g1.trans g2).trans g3) hS).ex
  rcases klk r k with ⟨h1, h2⟩ | ⟨y, v, h1, h2, h3⟩
  · exact ⟨none, .inl ⟨ks, _, .inl e3, eu, h2.symm⟩, q _ W3 (g2.trans g3) (by rw [h1]; exact rw)⟩
  · exact ⟨some v, .inl ⟨ks, _, .inl e3, eu, h2.symm⟩, q _ W3 (g2.trans g3) (by rw [h1]; exact h3)⟩
/-- it shall stay -/
theorem DMut.fix (m : DMut K W d kv) : ∃ o, ∃ h : W.H d = some o, DictAt K (W.fix d o h) (.ref d) ⟨kv⟩ ∧ Ex W.B (W.fix d o h).B ∧ ∀ W0 S, Md S W0 W → W0.H d = none → Md S W0 (W.fix d o h) := by
  obtain ⟨ks, e, r⟩ := m.ex
  exact ⟨_, e, ⟨d, ks, rfl, upd_same, e, KReps.mono (exExt (ex_fix e m.b)) r⟩, ex_fix e m.b, fun W0 S g f => md_fix g e m.b f⟩
end
/-! ### dicts with tuples of ints as keys -/
structure TMut (W : Wd) (d : Addr) (ks : List (List Key)) : Prop where
  b : W.B d = none
  ex : ∃ kvs, W.H d = some (.dT kvs) ∧ kvs.map (·.1) = ks
section
variable {W W' : Wd} {d : Addr} {ks : List (List Key)} {S : List Addr} {K : Fg} {σ : SS} {ty tv te : TE} {ε : Ef}
theorem TMut.nt (m : TMut W d ks) : Nt W.H d := by
  obtain ⟨k, e, _⟩ := m.ex
  exact ⟨_, e, fun _ z => by cases z⟩
theorem TMut.g (m : TMut W d ks) (g : Md S W W') (h : d ∉ S) : TMut W' d ks := by
  obtain ⟨k, e, r⟩ := m.ex
  have := g.mut h e m.b
  exact ⟨this.2, k, this.1, r⟩
theorem TMut.gr (m : TMut W d ks) (g : Grow W W') : TMut W' d ks := m.g g (by simp)
def tput (ks : List (List Key)) (k : List Key) : List (List Key) := if (ks.any fun x => decide (x = k)) = true then ks else ks ++ [k]
theorem tput_keys (kvs : List (List Key × V)) (k : List Key) (v : V) : (putK kvs k v).map (·.1) = tput (kvs.map (·.1)) k := by
  unfold putK tput
  have : (kvs.any fun kv => decide (kv.1 = k)) = ((kvs.map (·.1)).any fun x => decide (x = k)) := by
    rw [List.any_map]
    rfl
  by_cases h : (kvs.any fun kv => decide (kv.1 = k)) = true
  · rw [if_pos h, if_pos (this ▸ h), List.map_map]
    refine List.map_congr_left fun q _ => ?_
    show (if q.1 = k then (q.1, v) else q).1 = q.1
    split <;> rfl
  · rw [if_neg h, if_neg (fun z => h (this ▸ z)), List.map_append]
    rfl
theorem tput_mem {ks : List (List Key)} {k j : List Key} : j ∈ tput ks k ↔ j ∈ ks ∨ j = k := by
  unfold tput
  split
  · rename_i h
    obtain ⟨x, hx, e⟩ := List.any_eq_true.mp h
    have e' : x = k := of_decide_eq_true e
    exact ⟨.inl, fun z => z.elim id fun e => by rw [e, ← e']; exact hx⟩
  · simp
theorem tput_len (ks : List (List Key)) (k : List Key) : (tput ks k).length ≤ ks.length + 1 := by
  unfold tput
  split <;> simp
def ikey (xs : List Int) : List Key := xs.map Sum.inl
theorem ikey_vals {xs : List Int} : (ikey xs).map kV = xs.map V.int := by
  unfold ikey
  rw [List.map_map]
  rfl
theorem s_tput {α : Type} [Py α] {D : Ends} {i : Nat} {k : Tup Int} {x : α} (hd : σ[i]? = some (some (.ref d))) (m : TMut W d ks) (hv : EvR pur K tv σ W x) (hk : EvR pur K ty σ W k) (hl : ks.length ≤ 1000000)
    (q : ∀ W', Md [d] W W' → On W W' → TMut W' d (tput ks (ikey k.items)) → D.nx σ W'.H) : sDPut (tVar i) ty tv D σ W.H := hv W (.start trivial) _ fun v W1 g1 rv => ⟨.ref d, hd, hk W1 g1 _ fun u W2 g2 ⟨b, vs, e, s, r⟩ => by
  have g := (g1.trans g2).pure
  obtain ⟨kvs, e1, r1⟩ := (m.gr g).ex
  have bd := (m.gr g).b
  have len : kvs.length = ks.length := by rw [← r1, List.length_map]
  refine ⟨d, _, rfl, .inr ⟨kvs, ikey k.items, b, e1, e, ?_, by rw [len, PySem.sizeLine_eq]; omega, rfl⟩, q (W2.put d _ bd) ((Grow.s g).trans (md_put bd)) (g.on.trans (md_put bd).on) ⟨bd, _, upd_same, by rw [tput_keys, r1]⟩⟩
  rw [ikey_vals, ← reps_int r]
  exact W2.sub.et s⟩
abbrev rListDT : List V → Hp → VK → Prop := fun xs H Q => ∃ d kvs, xs = [V.ref d] ∧ Rd H d (.dT kvs) ∧ ∀ p bs, H p = none → IsKeys H kvs bs → Q (.ref p) (upd H p (.lst (bs.map V.ref)))
/-- list(d) -/
theorem ev_listDT {i : Nat} {xs : List (Tup Int)} (hd : σ[i]? = some (some (.ref d))) (m : TMut W d ks) (hx : ks = xs.map fun t => ikey t.items) : EvR pur K (tCB rListDT (tCons (tVar i) tNil)) σ W xs := fun W1 g1 Q q => by
  obtain ⟨kvs, e1, r1⟩ := (m.gr g1.pure).ex
  refine ⟨_, hd, d, kvs, rfl, .inl e1, fun p bs hp hk => ?_⟩
  have gt := W1.grow_tup bs
  have hp' : (W1.tup bs).H p = none := hp
  refine q _ ((W1.tup bs).add p _) (.of (gt.trans (Wd.grow_add _ hp'))) ⟨p, _, rfl, upd_same, ?_⟩
  have rB : Reps K (W1.tup bs).B (bs.map V.ref) xs := by
    subst hx
    clear q e1
    have main : ∀ (kvs : List (List Key × V)) (bs' : List Addr) (xs : List (Tup Int)), (∀ b ∈ bs', b ∈ bs) → IsKeys W1.H kvs bs' → kvs.map (·.1) = xs.map (fun t => ikey t.items) → Reps K (W1.tup bs).B (bs'.map V.ref) xs := by
      intro kvs
      induction kvs with
      | nil =>
        intro bs' xs _ hk hm
        cases hk
        cases xs with
        | nil => exact .nil
        | cons x xs => cases hm
      | cons kv kvs ih =>
        intro bs' xs hs hk hm
        cases hk with
        | cons h1 h2 =>
          cases xs with
          | nil => cases hm
          | cons x xs =>
            rw [List.map_cons, List.map_cons] at hm
            injection hm with hm1 hm2
            refine .cons ⟨_, _, rfl, Wd.tup_at h1 (hs _ List.mem_cons_self), ?_⟩ (ih _ _ (fun b hb => hs b (List.mem_cons_of_mem _ hb)) h2 hm2)
            rw [hm1, ikey_vals]
            exact int_reps _
    exact main kvs bs xs (fun _ h => h) hk r1
  exact Reps.mono (exExt (Wd.grow_add _ hp').b) rB
end
/-! ### [e for x in ..] where e is drawn -/
section
variable {α β : Type} [Py α] [Py β] {K : Fg} {σ : SS} {W W' : Wd} {v : V} {te : TE} {wi : TI} {ε : Ef}
/-- what is walked, not known whole -/
def EvIQ {α : Type} [Py α] (ε : Ef) (K : Fg) (wi : TI) (σ : SS) (W : Wd) (P : List α → Prop) : Prop :=
  ∀ W1, Stp ε W W1 → ∀ R : It → Hp → Prop, (∀ J S W2 xs, P xs → Stp ε W1 W2 → S W2 → (∀ W W', S W → Stp ε W W' → S W') → Src K J S xs → R J W2.H) → wi σ W1.H R
theorem EvI.q {xs : List α} (h : EvI ε K wi σ W xs) : EvIQ ε K wi σ W (fun ys => ys = xs) := fun W1 g1 R k => h W1 g1 R fun J S W2 g2 s sg src => k J S W2 xs rfl g2 s sg src
theorem ei_rngQ {P : Int → Prop} (h : EvP ε te σ W (fun v _ => ∃ n, v = .int n ∧ P n)) (hb : ∀ n, P n → n ≤ 1000000000 ∧ -1000000000 ≤ n) : EvIQ (α := Int) ε K (iRng1 (tCons te tNil)) σ W (fun xs => ∃ n, P n ∧ xs = rng 0 n.toNat) := fun W1 g1 R k => h W1 g1 _ fun v W2 g2 ⟨n, e, p⟩ =>
  ⟨n, by rw [e], by have := hb n p; omega, by have := hb n p; omega, k _ (fun _ => True) W2 _ ⟨n, p, rfl⟩ g2 trivial (fun _ _ _ _ => trivial) src_range⟩
theorem en_lcQ {j : Nat} {P : List α → Prop} {R : β → Prop} (hi : EvIQ ε K wi σ W P) (hl : ∀ xs, P xs → xs.length ≤ 100000) (he : ∀ (x : α) v W', Stp ε W W' → rep K W'.B v x → EvP ε te ((wipe σ [j]).set j (some v)) W' (fun u W2 => ∃ y : β, R y ∧ rep K W2.B u y)) :
    ∀ W1, Stp ε W W1 → ∀ Q : VK, (∀ p vs (xs : List α) (ys : List β) W2, P xs → Stp ε W1 W2 → W1.H p = none → W2.B p = none → W2.H p = some (.lst vs) → Reps K W2.B vs ys → ys.length = xs.length → (∀ y ∈ ys, R y) → Q (.ref p) W2.H) → tLc wi (gName j) tYes te [j] σ W1.H Q := fun W1 g1 Q k =>
  hi W1 g1 _ fun J S W2 xs hP g2 s2 sg src D hD => by
    have hl := hl xs hP
    have DS : D ∉ ε.S := Ef.off g2.i hD
    refine ⟨fun i m H => m = xs.length - i ∧ i ≤ xs.length ∧ ∃ Wi acc ys, Wi.H = H ∧ Stp ε W2 Wi ∧ Wi.B D = none ∧ Wi.H D = some (.lst acc) ∧ Reps K Wi.B acc ys ∧ ys.length = i ∧ ∀ y ∈ ys, R y, ⟨xs.length, rfl, Nat.zero_le _, W2.put D (.lst []) (W2.free hD), [], ([] : List β), rfl, ⟨md_mut (.refl _ _) (W2.free hD) hD, i_put DS g2.i _⟩, W2.free hD, upd_same, .nil, rfl, by simp⟩, ?_⟩
    rintro i m H ⟨rfl, hle, Wi, acc, ys, rfl, gi, bD, hDi, rs, hyl, hR⟩
    have si : S Wi := sg _ _ s2 gi
    have hacc : acc.length ≤ i := by rw [Reps.len rs, hyl]; exact Nat.le_refl _
    by_cases hlt : i < xs.length
    · refine .inr ⟨src.go i Wi si hlt, fun H => i + 1 ≤ xs.length ∧ ∃ Wi acc ys, Wi.H = H ∧ Stp ε W2 Wi ∧ Wi.B D = none ∧ Wi.H D = some (.lst acc) ∧ Reps K Wi.B acc (ys : List β) ∧ ys.length = i + 1 ∧ ∀ y ∈ ys, R y, fun H' h' => ⟨_, by omega, rfl, h'⟩, fun v H'' hy => ?_⟩
      obtain ⟨x, W3, rfl, g3', hx, r⟩ := src.yld i Wi v H'' si hlt hy
      have g3 : Stp ε Wi W3 := gi.rf.and g3'
      have m3 := g3.md.mut DS hDi bD
      refine ⟨wipe1, ?_⟩
      refine et_yes (ε := ε) W3 g3.rf _ fun W4 g4 => ?_
      rw [if_pos rfl]
      have m4 := g4.md.mut DS m3.1 m3.2
      refine he x v W4 ((((g1.trans g2).trans gi).trans g3).trans g4) (rep_s g4 r) W4 g4.rf _ fun u W5 g5 ⟨y, hy1, r5⟩ => ?_
      have m5 := g5.md.mut DS m4.1 m4.2
      refine ⟨acc, m5.1, Evl.sz_lt (by omega), hlt, W5.put D _ m5.2, acc ++ [u], ys ++ [y], rfl, ⟨md_mut (((gi.trans g3).trans g4).trans g5).md m5.2 hD, i_put DS g5.i _⟩, m5.2, upd_same, Reps.snoc (Reps.mono (exExt ((g3.trans g4).trans g5).md.b) rs) r5, by rw [List.length_append, hyl]; rfl, fun z hz => ?_⟩
      rcases List.mem_append.mp hz with h | h
      · exact hR z h
      · rw [List.mem_singleton.mp h]; exact hy1
    · have e : i = xs.length := by omega
      subst e
      exact .inl ⟨src.stop _ Wi si (Nat.le_refl _), k D acc xs ys Wi hP (g2.trans gi) (by
        cases e : W1.H D with
        | none => rfl
        | some o => exact absurd hD (g2.md.d D (by rw [e]; exact fun z => by cases z))) bD hDi rs hyl hR⟩
theorem ep_lcQ {j : Nat} {P : List α → Prop} {R : β → Prop} (hi : EvIQ ε K wi σ W P) (hl : ∀ xs, P xs → xs.length ≤ 100000) (he : ∀ (x : α) v W', Stp ε W W' → rep K W'.B v x → EvP ε te ((wipe σ [j]).set j (some v)) W' (fun u W2 => ∃ y : β, R y ∧ rep K W2.B u y)) :
    EvP ε (tLc wi (gName j) tYes te [j]) σ W (fun v W' => ∃ (xs : List α) (ys : List β), P xs ∧ ys.length = xs.length ∧ (∀ y ∈ ys, R y) ∧ rep K W'.B v ys) := fun W1 g1 Q k =>
  en_lcQ hi hl he W1 g1 Q fun p vs xs ys W2 hP g2 f n e r hly hR => k _ (W2.fix p _ e) (g2.fix f g1.i e n) ⟨xs, ys, hP, hly, hR, p, vs, rfl, upd_same, Reps.mono (exExt (ex_fix e n)) r⟩
/-- m + a drawn number -/
theorem ep_add {m : Int} {P : Int → Prop} (h : EvP ε te σ W (fun v _ => ∃ n, v = .int n ∧ P n)) : EvP ε (tOp oAdd (tC (.int m)) te) σ W (fun v _ => ∃ n, v = .int (m + n) ∧ P n) := fun W1 g1 Q k => h W1 g1 _ fun v W2 g2 ⟨n, e, p⟩ =>
  ⟨m, n, rfl, e, k _ W2 g2 ⟨n, rfl, p⟩⟩
/-- a drawn number == m -/
theorem ep_eq (K0 : Fg) {m : Int} {P : Int → Prop} (h : EvP ε te σ W (fun v _ => ∃ n, v = .int n ∧ P n)) : EvP ε (tOp rEq te (tC (.int m))) σ W (fun v _ => ∃ b : Bool, v = .bl b) := fun W1 g1 Q k => h W1 g1 _ fun v W2 g2 ⟨n, e, p⟩ => by
  subst e
  exact ro_eqI (K := K0) _ _ W2 rfl rfl Q fun w W3 g3 r => k w W3 (g2.and g3) ⟨_, r⟩
/-- a test that is drawn -/
def EvTQ (ε : Ef) (tt : TT) (σ : SS) (W : Wd) : Prop := ∀ W1, Stp ε W W1 → ∀ Q : Bool → Hp → Prop, (∀ b W2, Stp ε W1 W2 → Q b W2.H) → tt σ W1.H Q
theorem etq (h : EvP ε te σ W (fun v _ => ∃ b : Bool, v = .bl b)) : EvTQ ε (tTest te) σ W := fun W1 g1 Q k => h W1 g1 _ fun v W2 g2 ⟨b, e⟩ => ⟨b, e, k b W2 g2⟩
theorem q_whenQ {D : Ends} {t : TT} {tu tz : TS} (h : EvTQ ε t σ W) (s : ε.I W) (h1 : ∀ W', Stp ε W W' → tu { D with nx := tz D } σ W'.H) (h2 : ∀ W', Stp ε W W' → tz D σ W'.H) : tSeq (tIfS t tu tNext) tz D σ W.H := h W (.start s) _ fun b W' g => by
  cases b with
  | true => exact h1 W' g
  | false => exact h2 W' g
/-- both ways meet again in R -/
theorem q_whenJ {D : Ends} {t : TT} {tu tz : TS} (R : Wd → Prop) (h : EvTQ ε t σ W) (s : ε.I W) (k : ∀ W', R W' → tz D σ W'.H) (h1 : ∀ W', Stp ε W W' → (∀ W'', R W'' → tz D σ W''.H) → tu { D with nx := tz D } σ W'.H) (h2 : ∀ W', Stp ε W W' → R W') : tSeq (tIfS t tu tNext) tz D σ W.H :=
  q_whenQ h s (fun W' g => h1 W' g k) (fun W' g => k W' (h2 W' g))
end
end B
/-! B: == of own instances, methods called by keywords alone -/
namespace B
open PySem L2 PySem.Spec PyProof.Rows
section
variable {X : Cx} {CX : CXT} {k : Nat} {f C : Addr} {fd : FuncData} {ps ks : List Str} {sp : Sp} {E : XK} {o : Expr} {ta : TE} {tk : TA} {kws : List Keyword} {m : Str} {apos pos : Pos}
/-- x == y, two instances of the class at C, whose own __eq__ keeps the promise sp -/
def rInsEq (C : Addr) (sp : Sp) (E : XK) : R2 := fun x y H Q => ∃ a b dx dy fs gs, x = .ref a ∧ y = .ref b ∧ H a = some (.ins C dx fs) ∧ H b = some (.ins C dy gs) ∧ sp [x, y] H Q E
theorem op_insEq (F : FnOk X.prog X.w X.K X.mg X.base CX k f fd ps sp) (hr : Room k X.A) (hm : Meth X.K C "__eq__" f) (hb : Binds X.K fd ps []) (hx : Passes CX X E) : OpR X (compareOp .Eq) (rInsEq C sp E) := by
  intro pins s σ H x y v u Q I rx ry h
  obtain ⟨a, b, dx, dy, fs, gs, rfl, rfl, ha, hb', q⟩ := h
  cases (show v = Value.ref a from rx)
  cases (show u = Value.ref b from ry)
  obtain ⟨mA, J, _⟩ := ins_get I.hok ha
  obtain ⟨mB, J', _⟩ := ins_get I.hok hb'
  obtain ⟨od, J, _⟩ := J.look
  obtain ⟨od', J', _⟩ := J'.look
  obtain ⟨m, hF⟩ := I.fr
  show wpAny (model X.prog X.w) X.A (richCompare .Eq (.ref a) (.ref b)) (EP X pins σ Q) X.xe s
  refine PySem.W.cmp_K (op := .Eq) (tb := .ref C) hr.units0 hF I.ok.mod.kin J J'.type (by simp [PySem.W.notFirst]) hm.at_ hm.fn ?_
  refine wpAny_mono (run_fn (us := [.ref a, .ref b]) (vs := [.ref a, .ref b]) (dvs := []) F hr hb .nil hx I (.cons rfl (.cons rfl .nil)) q) (fun w s' z => ?_) fun _ _ x => x
  obtain ⟨z', H', I', rz, qz⟩ := z
  exact SlX.cmpback rz ⟨z', H', I', rz, qz⟩
/-- how a method binds keywords alone, self ahead -/
def KwM (K : Fg) (fd : FuncData) (ps ks : List Str) (l : List Nat) : Prop := ∀ (s : Shared) (o : Value) (ws : List Value), K.In s.heap → ws.length = ks.length → BindsTo s fd ⟨[o], ks.zip ws⟩ (ps.zip (o :: perm l ws))
theorem kwm_mk {K : Fg} {x qual : Str} {st : Stmt} {f : Addr} {fd : FuncData} {ps ks : List Str} {l : List Nat} (F : Fun K x qual st f fd)
    (h : ∀ (kV doc pm : Value) (an : Option Addr) (cdv ct : Value) (o : Value) (us : List Value), us.length = ks.length → bindArgs (PySem.W.fnOf x qual (defArgs st) (defBody st) (defScope st) .none kV doc pm an cdv ct) ⟨[o], ks.zip us⟩ = pure (ps.zip (o :: perm l us))) : KwM K fd ps ks l := by
  obtain ⟨oc, od, kV, doc, pm, an, cdv, ct, osl, rfl, lk, hcd⟩ := F.ex
  exact fun s o ws _ hl => .of_eq (h kV doc pm an cdv ct o ws hl)
def tMethKw (C : Addr) (m : Str) (sp : Sp) (l : List Nat) (n : Nat) (E : XK) (ta : TE) (tk : TA) : TE := fun σ H Q => ta σ H fun x H1 => ∃ a dx fs, x = .ref a ∧ H1 a = some (.ins C dx fs) ∧ fs.lookup m = none ∧ tk σ H1 fun zs H2 => zs.length = n ∧ sp (x :: perm l zs) H2 Q E
theorem pe_methKw {l : List Nat} {n : Nat} {pl : Sem Bool} (he : PE X o ta) (c : Cls X.K C) (hm : Meth X.K C m f) (F : FnOk X.prog X.w X.K X.mg X.base CX k f fd ps sp) (hr : Room k X.A) (hb : KwM X.K fd ps ks l) (hx : Passes CX X E)
    (hkw : PK X kws tk) (hall : (backToKw pos (keywordEach kws X.env)).all (·.1.isSome) = true := by rfl) (hks : (backToKw pos (keywordEach kws X.env)).filterMap (·.1) = ks := by rfl)
    (hn : n = ks.length := by rfl) (hpl : ((backTo pos (starEach [] X.env)).any (·.1) || (backToKw pos (keywordEach kws X.env)).any (·.1.isNone)) = false := by rfl)
    (ht : eval (.Call (.Attribute o m apos) [] kws pos) X.env = (do
      let ov ← eval o X.env
      standAt apos.atName
      let (f, first) ← holding [ov] (getMethod ov m pl)
      callWith pos f first (backTo pos (starEach [] X.env)) (backToKw pos (keywordEach kws X.env))) := by rfl) :
    PE X (.Call (.Attribute o m apos) [] kws pos) (tMethKw C m sp l n E ta tk) := by
  subst hn
  refine ⟨fun pins s σ H Q I h => ?_⟩
  refine PySem.W.methodCall_KW (pl := pl) (thn (he.run pins s σ H _ I h) fun u s1 ⟨x, H1, I1, rx, a, dx, fs, ex, ea, lk, q⟩ => ?_) ht
  subst ex
  obtain rfl : u = Value.ref a := rx
  refine getmeth_ok I1 ea c hm lk ?_
  refine PySem.W.callWith_KW0 (first := [.ref a]) (h₀ := X.base) I.ok.mod.kin hm.kp hall (thn (hkw.run pos pins s1 σ H1 _ I1 q) fun ws s2 ⟨zs, H2, I2, rz, hl, q2⟩ => ⟨I2.kIn, ?_⟩) hpl
  rw [hks]
  have r2 : Vals (V.ref a :: perm l zs) (Value.ref a :: perm l ws) := .cons rfl (perm_rel l rz)
  refine wpAny_call (codeAny_mono (F.run X.A X.stack s2 H2 ⟨[.ref a], ks.zip ws⟩ (Value.ref a :: perm l ws) (V.ref a :: perm l zs) Q E hr I2.env0 (hb s2 (.ref a) ws I2.kIn (by rw [← rz.length]; exact hl)) r2 q2) fun r s' hq => ?_)
  cases r with
  | error e => exact hx pins σ H2 s2 e s' I2 hq
  | ok fl =>
    cases fl with
    | ret u => exact I2.after hq
    | next => exact False.elim hq
    | brk => exact False.elim hq
    | cont => exact False.elim hq
end
/-- what is asked of a class whose instances have a dict; isinstance of itself -/
structure ClsI (K : Fg) (C : Addr) : Prop where
  cl : Cls K C
  ha : PySem.W.findIn K (.ref C) "__class__" = some (some (.builtin "object.__class__"))
  hn : PySem.W.specialIn K (.builtin "object.__class__") "__get__" = some (some (.builtin "getset_descriptor.__get__"))
  ht : PySem.W.takesIn K (.builtin "object.__class__") = some true
  hm : PySem.W.mroIn K C (.type "object") = some true
  ki : PySem.W.kitOne K (.ref C) (.ref C) = some true
theorem ClsI.ty {K : Fg} {C a dx : Addr} {H : Hp} {fs : List (Str × V)} (c : ClsI K C) (e : H a = some (.ins C dx fs)) : TyX K H (.ref a) (.ref C) := .base (.ins e c.cl c.ha c.hn c.ht c.hm)
/-- isinstance of an own instance -/
theorem rc_isi_own {K : Fg} {C a dx : Addr} {H : Hp} {Q : VK} {fs : List (Str × V)} (c : ClsI K C) (e : H a = some (.ins C dx fs)) (q : Q (.bl true) H) : rIsi K [.ref a, .ref C] H Q := ⟨.ref a, .ref C, .ref C, .ref C, true, rfl, .own C, c.ty e, c.ki, q⟩
/-! ### enumerate(tuple) -/
theorem enumT_new (t : Addr) (items : Array Value) :
    Meets (Builtin.«enumerate.__new__» ⟨[.type "enumerate", .ref t], []⟩) (fun _ R s => s.heap.IsTuple t items ∧
      R (.ok (.ret (.ref (s.heap.objs.size + 1)))) { s with heap := (s.heap.push { cls := .type "tuple_iterator", data := .fields #[.ref t, .int 0 0] }).push { cls := .type "enumerate", data := .fields #[.none, .bool false, .ref s.heap.objs.size, rawInt 0, .none, .none] } }) :=
  .of_wp fun prog w A R s h => by
    obtain ⟨hp, g, d, tk, os⟩ := s
    obtain ⟨h1, h⟩ := h
    have hsub := sub_enumerate
    have hz : (hp.push { cls := .type "tuple_iterator", data := .fields #[.ref t, .int 0 0] }).objs.size = hp.objs.size + 1 := Heap.size_push ..
    have q1 : ∀ {A' : Around} {E : Value → Shared → Prop} {Q : Value → Shared → Prop}, Q (.ref hp.objs.size) ⟨hp.push { cls := .type "tuple_iterator", data := .fields #[.ref t, .int 0 0] }, g, d, tk, os⟩ → wpAny (model prog w) A' (pyIter (.ref t)) Q E ⟨hp, g, d, tk, os⟩ :=
      fun q => wpAny_pyIter_tuple (s := ⟨hp, g, d, tk, os⟩) h1 q
    have h' : ∃ v, Fin.done (Flow.ret (Value.ref (hp.push { cls := .type "tuple_iterator", data := .fields #[.ref t, .int 0 0] }).objs.size)) = Fin.done (Flow.ret v) ∧ R (.ok (.ret v)) ⟨(hp.push { cls := .type "tuple_iterator", data := .fields #[.ref t, .int 0 0] }).push { cls := .type "enumerate", data := .fields #[.none, .bool false, .ref hp.objs.size, rawInt 0, .none, .none] }, g, d, tk, os⟩ := ⟨_, rfl, by rw [hz]; exact h⟩
    wp_walk using q1
    refine wpAny_stack_any fun st => wpAny_pure ?_
    split
    · rename_i c _ _ _ _ _
      cases (c == Value.type "enumerate")
      · wp_walk using q1
        exact h'
      · wp_walk using q1
        exact h'
    · wp_walk using q1
      exact h'
def IteT (K : Fg) (a : Addr) (n : Nat) : It :=
  ⟨fun i H => i < n ∧ ∃ xs : List V, SqT K H a xs ∧ xs.length = n, fun i H v H' => ∃ T x, v = .ref T ∧ H T = none ∧ H' = upd H T (.tup [.int (i : Nat), x]) ∧ ∀ xs, SqT K H a xs → xs[i]? = some x,
    fun i H => n ≤ i ∧ ∃ xs : List V, SqT K H a xs ∧ xs.length = n⟩
def EtTn (a e it : Addr) (n i : Nat) (h : Heap) : Prop := (∃ old, IsEnum h e it ((i : Nat) : Int) old) ∧ h.IsTupleIter it a i ∧ e ≠ it ∧ e ≠ a ∧ i ≤ n
theorem turn_enumT {P : Program} {w : World} {K : Fg} {elts : List Expr} {kk : Nat} {tpos : Pos} (a e it : Addr) (n : Nat) :
    Turn P w K (.Tuple elts kk tpos) (IteT K a n) [e, it] e (EtTn a e it n) where
  mem := by simp
  obj := fun i h st b hb => by
    obtain ⟨⟨old, he⟩, ⟨o, ho, hc, hd⟩, _⟩ := st
    simp only [List.mem_cons, List.not_mem_nil, or_false] at hb
    rcases hb with z | z <;> rw [z]
    · exact ⟨_, he, fun v q => nomatch q⟩
    · exact ⟨o, ho, fun v q => by rw [hd] at q; cases q⟩
  keep := fun i h h' st k => let ⟨⟨old, he⟩, hi, hne⟩ := st; ⟨⟨old, k e (by simp) _ he⟩, hi.at fun o q => k it (by simp) o q, hne⟩
  item := by
    intro X hP hw hK hc i pins s σ H E I hf st hg
    subst hP hw hK
    obtain ⟨⟨old, he⟩, hit, hne, hea, hle⟩ := st
    obtain ⟨hlt, xs, hq, hn⟩ := hg
    obtain ⟨its, rv, p, hz⟩ := I.tuple hq
    have hl : its.length = n := by rw [← rv.length]; exact hn
    have hel : e < s.heap.objs.size := Heap.lt_size he
    have hil : it < s.heap.objs.size := by obtain ⟨_, q, _⟩ := hit; exact Heap.lt_size q
    have hef : e ∉ [it, a] := by simp [hne, hea]
    refine wpAny_pyNext_enum_itemD (Draws.tuple (show X.A.in1.handled = none from I.ok.hd hc) it a (ti_ne hit p) its.toArray) he ⟨hit, p⟩ (by simpa [hl] using hlt) hne hef fun u h' tk hu ho hit' hT hsz hk => ?_
    have hx : xs[i]? = some (xs[i]'(by omega)) := List.getElem?_eq_getElem (by omega)
    obtain ⟨u', e3, ru⟩ := rv.get hx
    have e2 : its[i]? = some u := by simpa using hu
    rw [e2] at e3
    cases e3
    refine ⟨_, rfl, wpAny_letOwnedTupleGo_enum (s := { s with heap := h', toks := tk + 1 }) ho fun h'' he' sb => ?_⟩
    have hT2 : h''.get? s.heap.objs.size = some { cls := .type "tuple", data := .seq #[.int i tk, u] } := (sb.2 _ (Nat.ne_of_gt hel)).trans hT
    have new : ObjOk X.prog X.w (upd H s.heap.objs.size (.tup [.int (i : Nat), xs[i]])) h'' s.heap.objs.size (.tup [.int (i : Nat), xs[i]]) :=
      ⟨by show 2 ≤ sizeLine; decide, [.int i tk, u], .cons ⟨_, rfl⟩ (.cons ru .nil), ⟨_, hT2, rfl, _, rfl⟩⟩
    have I1 : Inv X pins σ (upd H s.heap.objs.size (.tup [.int (i : Nat), xs[i]])) { s with heap := h'', toks := tk + 1 } :=
      I.turnedNew (ch := [e, it]) (fun b ob hb q => (sb.2 b (fun z => hb (by simp [z]))).trans (hk b ob (fun z => hb (by simp [z])) (fun z => hb (by simp [z])) q)) hf (Nat.le_refl _) new
    refine ⟨.ref s.heap.objs.size, _, I1, rfl, ⟨_, xs[i], rfl, I.hok.fresh (Nat.le_refl _), rfl, fun ys hy => by rw [I.tuple_inj hy hq]; exact hx⟩, ⟨⟨u, ?_⟩, hit'.1.at fun o q => (sb.2 it (Ne.symm hne)).trans q, hne, hea, by omega⟩, fun b hb => ?_⟩
    · have e1 : ((i + 1 : Nat) : Int) = (i : Int) + 1 := by omega
      rw [e1]; exact he'
    · have hb' : b < s.heap.objs.size := by
        simp only [List.mem_cons, List.not_mem_nil, or_false] at hb
        rcases hb with z | z <;> rw [z]
        · exact hel
        · exact hil
      rw [upd_ne (Nat.ne_of_lt hb')]
      exact (hf b hb).1
  done := by
    intro X hP hw hK hc i pins s σ H E I hf st hg
    subst hP hw hK
    obtain ⟨⟨old, he⟩, hit, hne, hea, hle⟩ := st
    obtain ⟨hge, xs, hq, hn⟩ := hg
    obtain ⟨its, rv, p, hz⟩ := I.tuple hq
    have hl : its.length = n := by rw [← rv.length]; exact hn
    obtain ⟨f0, f1, f2, f3, f4, f5⟩ := hf it (by simp)
    have hi : i = its.toArray.size := by simp; omega
    subst hi
    exact wpAny_pyNext_enum_endD (Draws.tuple (show X.A.in1.handled = none from I.ok.hd hc) it a (ti_ne hit p) its.toArray) he ⟨hit, p⟩ fun h' eb => ⟨rfl, I.turned (t' := s.toks) (fun b o hb q => eb b o hb q) f0 f1 f3 f4 f5⟩
  self := fun A i s Q E st h => let ⟨⟨_, he⟩, _⟩ := st; wpAny_pyIter_enum he h
def iEnumT (K : Fg) (ta : TA) : TI := fun σ H R => ta σ H fun vs H1 => ∃ a xs, vs = [.ref a] ∧ SqT K H1 a xs ∧ R (IteT K a xs.length) H1
theorem pi_enumT {X : Cx} {e : Expr} {ta : TA} {p pos tpos : Pos} {elts : List Expr} {kk : Nat} (hg : Gl X "enumerate") (hm : X.mg "enumerate" = none) (ha : PA X [e] ta) (hs : starEach [e] X.env = [(false, eval e X.env)] := by rfl) :
    PI X (.Tuple elts kk tpos) (.Call (.Name "enumerate" p) [e] [] pos) (iEnumT X.K ta) := by
  refine ⟨fun pins s σ H R I h => ?_⟩
  refine Call_ (ld_blt I hg hm boot_enumerate (PyProof.Rows.callWith_type1 (thn (ha.run pos pins s σ H _ I h) fun us s1 ⟨vs, H1, I1, r1, q1⟩ => ?_) hs rfl))
  obtain ⟨a, xs, ex, hq, q⟩ := q1
  subst ex
  cases r1 with
  | cons r rr =>
    cases rr
    cases r
    obtain ⟨its, rv, p', hz⟩ := I1.tuple hq
    have la : a < s1.heap.objs.size := by obtain ⟨o, ho, _⟩ := id p'; exact Heap.lt_size ho
    refine callType_new F.called_enumerate (by decide) (F.typeCall_enumerate_1 _) (F.newCall_enumerate_1 _) (fun obj => F.args_object_init_2 obj _) F.entry_enumerate_new (enumT_new a its.toArray) ⟨p', ?_⟩
    have hz : (s1.heap.push { cls := .type "tuple_iterator", data := .fields #[.ref a, .int 0 0] }).objs.size = s1.heap.objs.size + 1 := Heap.size_push ..
    have he : IsEnum ((s1.heap.push { cls := .type "tuple_iterator", data := .fields #[.ref a, .int 0 0] }).push { cls := .type "enumerate", data := .fields #[.none, .bool false, .ref s1.heap.objs.size, rawInt 0, .none, .none] }) (s1.heap.objs.size + 1) s1.heap.objs.size 0 .none := by
      have := Heap.get?_push_size (s1.heap.push { cls := .type "tuple_iterator", data := .fields #[.ref a, .int 0 0] }) (o := { cls := .type "enumerate", data := .fields #[.none, .bool false, .ref s1.heap.objs.size, rawInt 0, .none, .none] }) rfl
      rw [hz] at this; exact this
    refine ⟨⟨_, he, rfl⟩, wpAny_pyIter_enum he ?_⟩
    have hk : ∀ b o, s1.heap.get? b = some o → ((s1.heap.push { cls := .type "tuple_iterator", data := .fields #[.ref a, .int 0 0] }).push { cls := .type "enumerate", data := .fields #[.none, .bool false, .ref s1.heap.objs.size, rawInt 0, .none, .none] }).get? b = some o := fun b o x => Heap.get?_push_of_some _ (Heap.get?_push_of_some _ x)
    have I2 : Inv X pins σ H1 { s1 with heap := (s1.heap.push { cls := .type "tuple_iterator", data := .fields #[.ref a, .int 0 0] }).push { cls := .type "enumerate", data := .fields #[.none, .bool false, .ref s1.heap.objs.size, rawInt 0, .none, .none] } } := I1.kept (t' := s1.toks) hk
    refine ⟨s1.heap.objs.size + 1, [s1.heap.objs.size + 1, s1.heap.objs.size], _, _, H1, rfl, I2, turn_enumT a (s1.heap.objs.size + 1) s1.heap.objs.size xs.length, ⟨⟨.none, he⟩, ⟨_, Heap.get?_push_of_some _ (Heap.get?_push_size _ rfl), rfl, rfl⟩, Nat.succ_ne_self _, Nat.ne_of_gt (Nat.lt_succ_of_lt la), Nat.zero_le _⟩, fun b hb => ?_, q⟩
    have hle : s1.heap.objs.size ≤ b := by
      simp only [List.mem_cons, List.not_mem_nil, or_false] at hb
      rcases hb with z | z <;> rw [z]
      · exact Nat.le_succ _
      · exact Nat.le_refl _
    exact I1.fpOk hle (I1.hok.fresh hle)
open PySem.W (Tup)
theorem ei_enumT {α : Type} [Py α] {K : Fg} {σ : SS} {W : Wd} {te : TE} {ε : Ef} {xs : Tup α} (h : EvR ε K te σ W xs) : EvJ ε K (iEnumT K (tCons te tNil)) σ W ((rng 0 xs.items.length).zip xs.items) := fun W1 g1 R k => h W1 g1 _ fun v W2 g2 ⟨a, vs, e, s, r⟩ => by
  have hl := Reps.len r
  refine ⟨a, vs, by rw [e], SqT.of (W2.sub.et s), k (IteT K a vs.length) W2 g2 ⟨fun i W' o hi => ?_, fun i W' v H'' o hi ⟨T, x, e1, hT, e2, e3⟩ => ?_, fun i W' o hi => ?_⟩⟩
  · rw [List.length_zip, rng_len] at hi
    exact ⟨by omega, vs, SqT.of (W'.sub.et (o.b _ _ s)), rfl⟩
  · rw [List.length_zip, rng_len] at hi
    obtain ⟨y, h1, h2⟩ := Reps.get r (e3 vs (SqT.of (W'.sub.et (o.b _ _ s))))
    refine ⟨((i : Int), y), W'.add T _, e2.symm, W'.grow_add hT, ?_, T, .int (i : Nat), x, e1, upd_same, rfl, rep_g (W'.grow_add hT) (rex o.b h2)⟩
    rw [List.getElem?_zip_eq_some]
    exact ⟨by rw [rng_get (by omega)]; simp, h1⟩
  · rw [List.length_zip, rng_len] at hi
    exact ⟨by omega, vs, SqT.of (W'.sub.et (o.b _ _ s)), rfl⟩
/-! ### chains of comparisons -/
def tTest3 (r1 r2 r3 : R2) (ta tb tc td : TE) : TT := fun σ H Q => ta σ H fun x H1 => tb σ H1 fun y H2 => r1 x y H2 fun p H3 => ∃ k, p = .bl k ∧
  (if k = true then tc σ H3 fun z H4 => r2 y z H4 fun p H5 => ∃ k, p = .bl k ∧ (if k = true then td σ H5 fun u H6 => r3 z u H6 fun p H7 => ∃ k, p = .bl k ∧ Q k H7 else Q false H5) else Q false H3)
theorem pt_chain3 {X : Cx} {a b c d : Expr} {pos : Pos} {o1 o2 o3 : CmpOp} {r1 r2 r3 : R2} {ta tb tc td : TE} (h1 : OpR X (compareOp o1) r1) (h2 : OpR X (compareOp o2) r2) (h3 : OpR X (compareOp o3) r3) (ha : PE X a ta) (hb : PE X b tb) (hc : PE X c tc) (hd : PE X d td)
    (hm : lastMarks [o1, o2, o3] [b, c, d] = false := by with_unfolding_all rfl) : PT X (.Compare a [o1, o2, o3] [b, c, d] pos) (tTest3 r1 r2 r3 ta tb tc td) := by
  refine ⟨fun pins s σ H Q I h => ?_⟩
  refine isTrue_chain (thn (ha.run pins s σ H _ I h) fun v s1 ⟨x, H1, I1, g1, q1⟩ => test_link (thn (hb.run pins s1 σ H1 _ I1 q1) fun u s2 ⟨y, H2, I2, g2, q2⟩ =>
    thn (h1 pins s2 σ H2 x y v u _ I2 g1 g2 q2) fun d s3 ⟨z, H3, I3, g3, k, e, q3⟩ => ?_)) hm
  subst e
  cases g3
  refine wpAny_truthy_bool ?_
  cases k with
  | false => exact ite_ff ⟨H3, I3, q3⟩
  | true =>
    refine ite_tt (test_link (thn (hc.run pins s3 σ H3 _ I3 q3) fun w' s4 ⟨z', H4, I4, g4, q4⟩ => thn (h2 pins s4 σ H4 y z' u w' _ I4 g2 g4 q4) fun d' s5 ⟨z2, H5, I5, g5, k2, e2, q5⟩ => ?_))
    subst e2
    cases g5
    refine wpAny_truthy_bool ?_
    cases k2 with
    | false => exact ite_ff ⟨H5, I5, q5⟩
    | true =>
      refine ite_tt (test_last (thn (hd.run pins s5 σ H5 _ I5 q5) fun w6 s6 ⟨z6, H6, I6, g6, q6⟩ => thn (h3 pins s6 σ H6 z' z6 w' w6 _ I6 g4 g6 q6) fun d7 s7 ⟨z7, H7, I7, g7, k3, e3, q7⟩ => ?_))
      subst e3
      cases g7
      exact wpAny_truthy_bool ⟨H7, I7, q7⟩
section
variable {α β γ δ : Type} [Py α] [Py β] [Py γ] [Py δ] {K : Fg} {σ : SS} {W : Wd} {ta tb tc td : TE} {r1 r2 r3 : R2} {ε : Ef} {x : α} {y : β} {z : γ} {u : δ} {b1 b2 b3 : Bool}
/-- a op b op c as a value -/
theorem ev_chain (ha : EvR ε K ta σ W x) (hb : EvR ε K tb σ W y) (hc : EvR ε K tc σ W z) (h1 : RO K r1 x y b1) (h2 : RO K r2 y z b2) : EvR ε K (tChain r1 r2 ta tb tc) σ W (b1 && b2) := fun W1 g1 Q k =>
  ha W1 g1 _ fun vx W2 g2 rx => hb W2 (g1.trans g2) _ fun vy W3 g3 ry => h1 vx vy W3 (rep_s g3 rx) ry _ fun w W4 g4 rw => ⟨b1, rw, by
    have g14 := (g1.trans g2).trans (g3.and g4)
    cases b1 with
    | false => rw [if_neg Bool.false_ne_true]; exact k _ W4 ((g2.trans g3).and g4) rfl
    | true =>
      rw [if_pos rfl]
      exact hc W4 g14 _ fun vz W5 g5 rz => h2 vy vz W5 (rep_s g5 (rep_g g4 ry)) rz _ fun w' W6 g6 rw' => k w' W6 (((g2.trans (g3.and g4)).trans g5).and g6) rw'⟩
theorem et_chain3 (ha : EvR ε K ta σ W x) (hb : EvR ε K tb σ W y) (hc : EvR ε K tc σ W z) (hd : EvR ε K td σ W u) (h1 : RO K r1 x y b1) (h2 : RO K r2 y z b2) (h3 : RO K r3 z u b3) : EvT ε (tTest3 r1 r2 r3 ta tb tc td) σ W (b1 && (b2 && b3)) := fun W1 g1 Q k =>
  ha W1 g1 _ fun vx W2 g2 rx => hb W2 (g1.trans g2) _ fun vy W3 g3 ry => h1 vx vy W3 (rep_s g3 rx) ry _ fun w W4 g4 rw => ⟨b1, rw, by
    have g14 := (g1.trans g2).trans (g3.and g4)
    cases b1 with
    | false => rw [if_neg Bool.false_ne_true]; exact k W4 ((g2.trans g3).and g4)
    | true =>
      rw [if_pos rfl]
      exact hc W4 g14 _ fun vz W5 g5 rz => h2 vy vz W5 (rep_s g5 (rep_g g4 ry)) rz _ fun w' W6 g6 rw' => ⟨b2, rw', by
        have g16 := g14.trans (g5.and g6)
        cases b2 with
        | false => rw [if_neg Bool.false_ne_true]; exact k W6 (((g2.trans (g3.and g4)).trans g5).and g6)
        | true =>
          rw [if_pos rfl]
          exact hd W6 g16 _ fun vu W7 g7 ru => h3 vz vu W7 (rep_s g7 (rep_g g6 rz)) ru _ fun w8 W8 g8 rw8 => ⟨b3, rw8, k W8 ((((g2.trans (g3.and g4)).trans (g5.and g6)).trans g7).and g8)⟩⟩⟩
end
abbrev oIsB : R2 := fun x y H Q => ∃ a b, x = .bl a ∧ y = .bl b ∧ Q (.bl (decide (a = b))) H
abbrev oNotIsB : R2 := fun x y H Q => ∃ a b, x = .bl a ∧ y = .bl b ∧ Q (.bl (!decide (a = b))) H
theorem ro_isB {K : Fg} {a b : Bool} : RO K oIsB a b (decide (a = b)) := ro_val fun v u _ rv ru Q k => ⟨a, b, rv, ru, k _ rfl⟩
theorem ro_notIsB {K : Fg} {a b : Bool} : RO K oNotIsB a b (!decide (a = b)) := ro_val fun v u _ rv ru Q k => ⟨a, b, rv, ru, k _ rfl⟩
end B
/-! B: fields of own instances; max of a list; slices by places -/
namespace B
open PySem L2
open PySem.W (Tup T3 T4 Datum DatumOrd)
open Evl (Ex)
section
variable {α : Type} [Py α] {K : Fg} {C x : Addr} {W W' : Wd} {σ : SS} {i : Nat} {f : Str} {v : V} {y : α} {fs : List (Str × V)} {dx : Addr} {tv : TE} {ε : Ef}
/-- o.f -/
theorem ev_fld (c : Cls K C) (n : NoAttr K C f) (hd : σ[i]? = some (some (.ref x))) (hb : W.B x = none) (hh : W.H x = some (.ins C dx fs)) (hS : x ∉ ε.S) (hl : fs.lookup f = some v) (r : rep K W.B v y) : EvR ε K (tFld K (tVar i) f) σ W y := fun W1 g1 Q k => by
  have m := g1.md.mut hS hh hb
  exact ⟨_, hd, x, C, dx, fs, v, rfl, m.1, c, n, hl, k v W1 g1.rf (rep_s g1 r)⟩
/-- o.f = v -/
theorem s_fld {D : Ends} (c : Cls K C) (n : NoAttr K C f) (hd : σ[i]? = some (some (.ref x))) (hb : W.B x = none) (hh : W.H x = some (.ins C dx fs)) (hl : fs.length < 1000) (hv : EvR pur K tv σ W y)
    (q : ∀ v W', Md [x] W W' → On W W' → W'.B x = none → W'.H x = some (.ins C dx (putF f v fs)) → rep K W'.B v y → D.nx σ W'.H) : sFld K (tVar i) tv f D σ W.H := hv W (.start trivial) _ fun v W1 g1 rv => by
  have m := g1.pure.mut (by simp) hh hb
  exact ⟨_, hd, x, C, dx, fs, rfl, m.1, c, n, hl, q v (W1.put x _ m.2) ((Grow.s g1.pure).trans (md_put m.2)) (g1.on.trans (md_put m.2).on) m.2 upd_same rv⟩
theorem q_fld {D : Ends} {tz : TS} (c : Cls K C) (n : NoAttr K C f) (hd : σ[i]? = some (some (.ref x))) (hb : W.B x = none) (hh : W.H x = some (.ins C dx fs)) (hl : fs.length < 1000) (hv : EvR pur K tv σ W y)
    (q : ∀ v W', Md [x] W W' → On W W' → W'.B x = none → W'.H x = some (.ins C dx (putF f v fs)) → rep K W'.B v y → tz D σ W'.H) : tSeq (sFld K (tVar i) tv f) tz D σ W.H := s_fld (D := { D with nx := tz D }) c n hd hb hh hl hv q
/-- isinstance(o, C) of an instance of C -/
theorem ev_isOwn (c : ClsI K C) (hd : σ[i]? = some (some (.ref x))) (hb : W.B x = none) (hh : W.H x = some (.ins C dx fs)) (hS : x ∉ ε.S) : EvR ε K (tCB (rIsi K) (tCons (tVar i) (tCons (tC (.ref C)) tNil))) σ W true := fun W1 g1 Q k => by
  have m := g1.md.mut hS hh hb
  refine ⟨_, hd, ?_⟩
  show rIsi K [.ref x, .ref C] W1.H Q
  exact rc_isi_own c m.1 (k _ W1 g1.rf rfl)
/-- max(xs) -/
theorem rc_max {xs : List Int} {m : Int} (h1 : m ∈ xs) (h2 : ∀ y ∈ xs, y ≤ m) : RC1 K (rMax K) xs m := fun v W1 ⟨a, vs, e, s, r⟩ Q k => ⟨a, xs, by rw [e], by rw [← reps_int r]; exact SqL.of (W1.sub.el s), List.length_pos_of_mem h1, fun m' h3 h4 => by
  have : m' = m := Int.le_antisymm (h2 m' h3) (h4 m h1)
  rw [this]
  exact k _ W1 (.refl _ _) rfl⟩
end
theorem cut_to {α : Type} {xs : List α} {n : Nat} (h : n ≤ xs.length) : cutL xs none (some (n : Int)) = xs.take n := by
  unfold cutL
  rw [HT.sIx_none, HT.sIx_nat, List.drop_zero, Nat.sub_zero, Nat.min_eq_left h]
theorem cut_from {α : Type} {xs : List α} {n : Nat} (h : n ≤ xs.length) : cutL xs (some (n : Int)) none = xs.drop n := by
  unfold cutL
  rw [HT.sIx_none, HT.sIx_nat, Nat.min_eq_left h, List.take_of_length_le]
  rw [List.length_drop]
  exact Nat.le_refl _
theorem cut_toN {α : Type} {xs : List α} {n : Nat} : cutL xs none (some (n : Int)) = xs.take n := by
  unfold cutL
  rw [HT.sIx_none, HT.sIx_nat, List.drop_zero, Nat.sub_zero]
  by_cases h : n ≤ xs.length
  · rw [Nat.min_eq_left h]
  · rw [Nat.min_eq_right (by omega), List.take_of_length_le (Nat.le_refl _), List.take_of_length_le (by omega)]
end B
/-! B: more rules: lists that change, dict comprehensions, calls of three and four, targets of three and four names, list(range) -/
namespace B
open PySem L2
open PySem.W (Tup T3 T4 Datum DatumOrd)
open Evl (Ex)
section
variable {α β γ δ : Type} [Py α] [Py β] [Py γ] [Py δ] {K : Fg} {W W' : Wd} {σ : SS} {ε : Ef} {te ta tb tc td : TE} {i : Nat} {d : Addr} {S : List Addr}
theorem ty_tup {xs : Tup α} (W1 : Wd) (v : V) (h : rep K W1.B v xs) : TyX K W1.H v (.type "tuple") := by
  obtain ⟨a, vs, rfl, h1, _⟩ := h
  exact .base (.tup (W1.sub.et h1))
theorem ty_lst {xs : List α} (W1 : Wd) (v : V) (h : rep K W1.B v xs) : TyX K W1.H v (.type "list") := by
  obtain ⟨a, vs, rfl, h1, _⟩ := h
  exact .base (.lst (W1.sub.el h1))
/-- isinstance(x, (c1, c2)), built-in classes -/
theorem ev_isi2 {x : α} {a c1 c2 : String} {b1 b2 : Bool} (h : EvR ε K te σ W x) (ht : ∀ (W1 : Wd) v, rep K W1.B v x → TyX K W1.H v (.type a)) (h1 : kitB a c1 = some b1) (h2 : kitB a c2 = some b2) : EvR ε K (tCB (rIsiT K) (tCons te (tCons (tTup (tCons (tC (.ty c1)) (tCons (tC (.ty c2)) tNil))) tNil))) σ W (b1 || b2) := fun W1 g1 Q k =>
  h W1 g1 _ fun v W2 g2 r => ⟨Evl.sz_of (by show 2 ≤ 100000; decide), fun p hp => ⟨v, p, [.ty c1, .ty c2], .type a, [.type c1, .type c2], b1 || b2, rfl, upd_same, .cons (.ty c1) (.cons (.ty c2) .nil), ht (W2.add p (.tup [.ty c1, .ty c2])) v (rep_g (W2.grow_add hp) r), by
    refine kitAny_cons (kit_ty h1) (fun e => ?_) (fun e => by rw [e]; rfl)
    rw [e, Bool.false_or]
    exact kitAny_cons (kit_ty h2) (fun e2 => by rw [e2]; exact kitAny_nil) (fun e2 => e2), k _ (W2.add p _) (g2.and (W2.grow_add hp)) rfl⟩⟩
/-! ### calls of three, four -/
theorem ev_callP3 {P1 P2 P3 R : V → Wd → Prop} {sp : Sp} {E : XK} (ha : EvP ε ta σ W P1) (hb : EvP ε tb σ W P2) (hc : EvP ε tc σ W P3) (m1 : ∀ v W W', Stp ε W W' → P1 v W → P1 v W') (m2 : ∀ v W W', Stp ε W W' → P2 v W → P2 v W')
    (hs : ∀ v1 v2 v3 W1, Stp ε W W1 → P1 v1 W1 → P2 v2 W1 → P3 v3 W1 → ∀ Q : VK, (∀ u W2, Stp ε W1 W2 → R u W2 → Q u W2.H) → sp [v1, v2, v3] W1.H Q E) : EvP ε (tCall sp [] E (tCons ta (tCons tb (tCons tc tNil)))) σ W R := fun W1 g1 Q k =>
  ha W1 g1 _ fun v1 W2 g2 p1 => hb W2 (g1.trans g2) _ fun v2 W3 g3 p2 => hc W3 ((g1.trans g2).trans g3) _ fun v3 W4 g4 p3 => hs v1 v2 v3 W4 (((g1.trans g2).trans g3).trans g4) (m1 _ _ _ (g3.trans g4) p1) (m2 _ _ _ g4 p2) p3 Q fun u W5 g5 r => k u W5 (((g2.trans g3).trans g4).trans g5) r
theorem ev_callP4 {P1 P2 P3 P4 R : V → Wd → Prop} {sp : Sp} {E : XK} (ha : EvP ε ta σ W P1) (hb : EvP ε tb σ W P2) (hc : EvP ε tc σ W P3) (hd : EvP ε td σ W P4) (m1 : ∀ v W W', Stp ε W W' → P1 v W → P1 v W') (m2 : ∀ v W W', Stp ε W W' → P2 v W → P2 v W') (m3 : ∀ v W W', Stp ε W W' → P3 v W → P3 v W')
    (hs : ∀ v1 v2 v3 v4 W1, Stp ε W W1 → P1 v1 W1 → P2 v2 W1 → P3 v3 W1 → P4 v4 W1 → ∀ Q : VK, (∀ u W2, Stp ε W1 W2 → R u W2 → Q u W2.H) → sp [v1, v2, v3, v4] W1.H Q E) : EvP ε (tCall sp [] E (tCons ta (tCons tb (tCons tc (tCons td tNil))))) σ W R := fun W1 g1 Q k =>
  ha W1 g1 _ fun v1 W2 g2 p1 => hb W2 (g1.trans g2) _ fun v2 W3 g3 p2 => hc W3 ((g1.trans g2).trans g3) _ fun v3 W4 g4 p3 => hd W4 (((g1.trans g2).trans g3).trans g4) _ fun v4 W5 g5 p4 =>
    hs v1 v2 v3 v4 W5 ((((g1.trans g2).trans g3).trans g4).trans g5) (m1 _ _ _ ((g3.trans g4).trans g5) p1) (m2 _ _ _ (g4.trans g5) p2) (m3 _ _ _ g5 p3) p4 Q fun u W6 g6 r => k u W6 ((((g2.trans g3).trans g4).trans g5).trans g6) r
/-- a variable that holds what P tells -/
theorem ep_var {P : V → Wd → Prop} {v : V} (h : σ[i]? = some (some v)) (p : P v W) (m : ∀ W', Stp ε W W' → P v W') : EvP ε (tVar i) σ W P := fun W1 g1 Q k => ⟨v, h, k v W1 g1.rf (m W1 g1)⟩
/-- a method called -/
theorem ev_meth0 {R : V → Wd → Prop} {C : Addr} {m : Str} {sp : Sp} {E : XK} {x : Addr} {dx : Addr} {fs : List (Str × V)} (hd : σ[i]? = some (some (.ref x))) (hb : W.B x = none) (hh : W.H x = some (.ins C dx fs)) (hS : x ∉ ε.S) (hl : fs.lookup m = none)
    (hs : ∀ W1, Stp ε W W1 → ∀ Q : VK, (∀ u W2, Stp ε W1 W2 → R u W2 → Q u W2.H) → sp [.ref x] W1.H Q E) : EvP ε (tMeth C m sp [] E (tVar i) tNil) σ W R := fun W1 g1 Q k => by
  have mm := g1.md.mut hS hh hb
  exact ⟨_, hd, x, dx, fs, rfl, mm.1, hl, hs W1 g1 Q k⟩
/-! ### targets -/
theorem gt_t3 {j1 j2 j3 : Nat} {p : T3 α β γ} {v : V} {Q : SS → Hp → Prop} (r : rep K W.B v p) (k : ∀ v1 v2 v3, rep K W.B v1 p.a → rep K W.B v2 p.b → rep K W.B v3 p.c → Q (((σ.set j1 (some v1)).set j2 (some v2)).set j3 (some v3)) W.H) : gTup K 3 (gCons (gName j1) (gCons (gName j2) (gCons (gName j3) gNil))) v σ W.H Q := by
  obtain ⟨a, x, y, z, e, h, r1, r2, r3⟩ := r
  exact ⟨a, [x, y, z], e, SqT.of (W.sub.et h), rfl, x, [y, z], rfl, y, [z], rfl, z, [], rfl, rfl, k x y z r1 r2 r3⟩
theorem gt_t4 {j1 j2 j3 j4 : Nat} {p : T4 α β γ δ} {v : V} {Q : SS → Hp → Prop} (r : rep K W.B v p) (k : ∀ v1 v2 v3 v4, rep K W.B v1 p.a → rep K W.B v2 p.b → rep K W.B v3 p.c → rep K W.B v4 p.d → Q ((((σ.set j1 (some v1)).set j2 (some v2)).set j3 (some v3)).set j4 (some v4)) W.H) : gTup K 4 (gCons (gName j1) (gCons (gName j2) (gCons (gName j3) (gCons (gName j4) gNil)))) v σ W.H Q := by
  obtain ⟨a, x, y, z, w, e, h, r1, r2, r3, r4⟩ := r
  exact ⟨a, [x, y, z, w], e, SqT.of (W.sub.et h), rfl, x, [y, z, w], rfl, y, [z, w], rfl, z, [w], rfl, w, [], rfl, rfl, k x y z w r1 r2 r3 r4⟩
theorem gt_p2 {j1 j2 : Nat} {p : α × β} {v : V} {Q : SS → Hp → Prop} (r : rep K W.B v p) (k : ∀ v1 v2, rep K W.B v1 p.1 → rep K W.B v2 p.2 → Q ((σ.set j1 (some v1)).set j2 (some v2)) W.H) : gPair K j1 j2 v σ W.H Q := by
  obtain ⟨a, x, y, e, h, r1, r2⟩ := r
  exact ⟨a, [x, y], e, SqT.of (W.sub.et h), rfl, x, [y], rfl, y, [], rfl, rfl, k x y r1 r2⟩
theorem gt_u2 {j1 j2 : Nat} {x y : α} {v : V} {Q : SS → Hp → Prop} (r : rep K W.B v [x, y]) (k : ∀ v1 v2, rep K W.B v1 x → rep K W.B v2 y → Q ((σ.set j1 (some v1)).set j2 (some v2)) W.H) : gUnl K 2 (gCons (gName j1) (gCons (gName j2) gNil)) v σ W.H Q := by
  obtain ⟨a, vs, e, h, r⟩ := r
  cases r with
  | cons r1 r =>
    cases r with
    | cons r2 r =>
      cases r
      exact ⟨a, _, e, SqL.of (W.sub.el h), rfl, _, _, rfl, _, _, rfl, rfl, k _ _ r1 r2⟩
theorem ev_t4 {x : α} {y : β} {z : γ} {w : δ} (ha : EvR ε K ta σ W x) (hb : EvR ε K tb σ W y) (hc : EvR ε K tc σ W z) (hd : EvR ε K td σ W w) : EvR ε K (tTup (tCons ta (tCons tb (tCons tc (tCons td tNil))))) σ W (T4.mk x y z w) := fun W1 g1 Q k =>
  ha W1 g1 _ fun a W2 g2 ra => hb W2 (g1.trans g2) _ fun b W3 g3 rb => hc W3 ((g1.trans g2).trans g3) _ fun c W4 g4 rc => hd W4 (((g1.trans g2).trans g3).trans g4) _ fun e W5 g5 re => ⟨Evl.sz_of (by show 4 ≤ 100000; decide), fun p hp =>
    k _ (W5.add p (.tup [a, b, c, e])) ((((g2.trans g3).trans g4).trans g5).and (W5.grow_add hp)) ⟨p, a, b, c, e, rfl, upd_same, rep_g (W5.grow_add hp) (rep_s g5 (rep_s g4 (rep_s g3 ra))), rep_g (W5.grow_add hp) (rep_s g5 (rep_s g4 rb)), rep_g (W5.grow_add hp) (rep_s g5 rc), rep_g (W5.grow_add hp) re⟩⟩
/-- an item of a tuple of four -/
theorem ro_ixQ {p : T4 α β γ δ} : RO K (rIxT K) p (0 : Int) p.a ∧ RO K (rIxT K) p (1 : Int) p.b ∧ RO K (rIxT K) p (2 : Int) p.c ∧ RO K (rIxT K) p (3 : Int) p.d := by
  refine ⟨ro_val fun v u W1 rv ru Q k => ?_, ro_val fun v u W1 rv ru Q k => ?_, ro_val fun v u W1 rv ru Q k => ?_, ro_val fun v u W1 rv ru Q k => ?_⟩ <;>
  · obtain ⟨a, x, y, z, w, e, h, r1, r2, r3, r4⟩ := rv
    exact ⟨a, [x, y, z, w], _, _, e, ru, SqT.of (W1.sub.et h), rfl, k _ (by first | exact r1 | exact r2 | exact r3 | exact r4)⟩
/-- list(range(a, b)) -/
theorem ev_lstRg {a b : Int} (ha : EvR ε K ta σ W a) (hb : EvR ε K tb σ W b) (h : RgOk a b) : EvR ε K (tLstRg (tRg2 ta tb)) σ W (rng a (b - a).toNat) := fun W1 g1 Q k =>
  ha W1 g1 _ fun v W2 g2 ra => hb W2 (g1.trans g2) _ fun u W3 g3 rb => ⟨a, b, ra, rb, h, fun p hp => k _ (W3.add p _) ((g2.trans g3).and (W3.grow_add hp)) ⟨p, _, rfl, upd_same, by
    have : rgV a b = (rng a (b - a).toNat).map V.int := by
      unfold rgV rng
      rw [List.map_map]
      rfl
    rw [this]
    exact int_reps _⟩⟩
/-! ### lists that change -/
structure LMut (K : Fg) (W : Wd) (d : Addr) (xs : List α) : Prop where
  b : W.B d = none
  ex : ∃ vs, W.H d = some (.lst vs) ∧ Reps K W.B vs xs
theorem LMut.g {xs : List α} (m : LMut K W d xs) (g : Md S W W') (h : d ∉ S) : LMut K W' d xs := by
  obtain ⟨vs, e, r⟩ := m.ex
  have := g.mut h e m.b
  exact ⟨this.2, vs, this.1, Reps.mono (exExt g.b) r⟩
theorem LMut.gr {xs : List α} (m : LMut K W d xs) (g : Grow W W') : LMut K W' d xs := m.g g (by simp)
theorem LMut.nt {xs : List α} (m : LMut K W d xs) : Nt W.H d := by
  obtain ⟨vs, e, _⟩ := m.ex
  exact .l e
/-- xs.append(y) -/
theorem s_append {D : Ends} {xs : List α} {y : α} (hd : σ[i]? = some (some (.ref d))) (m : LMut K W d xs) (h : EvR pur K te σ W y) (hl : xs.length < 100000) (q : ∀ W', Md [d] W W' → On W W' → LMut K W' d (xs ++ [y]) → D.nx σ W'.H) : tDrop (tBM K "list" rAppend (tVar i) (tCons te tNil)) D σ W.H := by
  obtain ⟨vs, e, r⟩ := m.ex
  refine ⟨_, hd, .inl ⟨rfl, vs, SqL.of e⟩, h W (.start trivial) _ fun v W1 g1 rv => ?_⟩
  obtain ⟨vs1, e1, r1⟩ := (m.gr g1.pure).ex
  have b1 := (m.gr g1.pure).b
  exact ⟨d, vs1, v, rfl, rfl, e1, by rw [Reps.len r1]; exact Evl.sz_lt hl, q (W1.put d _ b1) ((Grow.s g1.pure).trans (md_put b1)) (g1.on.trans (md_put b1).on) ⟨b1, _, upd_same, Reps.snoc r1 rv⟩⟩
theorem q_append {D : Ends} {tz : TS} {xs : List α} {y : α} (hd : σ[i]? = some (some (.ref d))) (m : LMut K W d xs) (h : EvR pur K te σ W y) (hl : xs.length < 100000) (q : ∀ W', Md [d] W W' → On W W' → LMut K W' d (xs ++ [y]) → tz D σ W'.H) : tSeq (tDrop (tBM K "list" rAppend (tVar i) (tCons te tNil))) tz D σ W.H := s_append (D := { D with nx := tz D }) hd m h hl q
/-- it shall stay -/
theorem LMut.fix {xs : List α} (m : LMut K W d xs) : ∃ o, ∃ h : W.H d = some o, rep K (W.fix d o h).B (.ref d) xs ∧ Ex W.B (W.fix d o h).B ∧ ∀ W0 S, Md S W0 W → W0.H d = none → Md S W0 (W.fix d o h) := by
  obtain ⟨vs, e, r⟩ := m.ex
  exact ⟨_, e, ⟨d, vs, rfl, upd_same, Reps.mono (exExt (ex_fix e m.b)) r⟩, ex_fix e m.b, fun W0 S g f => md_fix g e m.b f⟩
/-- a list that changes, read -/
theorem LMut.rv {xs : List α} (m : LMut K W d xs) : ∃ vs, W.H d = some (.lst vs) ∧ Reps K W.B vs xs := m.ex
end
/-! ### {k: v for x in ..} -/
section
variable {α β κ : Type} [Py α] [Py β] [DecidableEq κ] [PyKey κ] {K : Fg} {W : Wd} {σ : SS} {ε : Ef} {tk tv : TE} {wi : TI}
theorem ed_dcN {j : Nat} {xs : List α} {f : α → κ} {g : α → β} (hi : EvI ε K wi σ W xs) (hk : ∀ x v W', x ∈ xs → Stp ε W W' → rep K W'.B v x → EvP ε tk ((wipe σ [j]).set j (some v)) W' (fun u _ => u = kV (PyKey.key (f x)))) (he : ∀ x v W', x ∈ xs → Stp ε W W' → rep K W'.B v x → EvR ε K tv ((wipe σ [j]).set j (some v)) W' (g x)) (hl : xs.length < 100000) :
    ∀ W1, Stp ε W W1 → ∀ Q : VK, (∀ p W2, Stp ε W1 W2 → W1.H p = none → DMut K W2 p (xs.foldl (fun kv x => kput kv (f x) (g x)) []) → Q (.ref p) W2.H) → tDc wi (gName j) tYes tk tv [j] σ W1.H Q := fun W1 g1 Q k =>
  hi W1 g1 _ fun J S W2 g2 s2 sg src D hD => by
    have DS : D ∉ ε.S := Ef.off g2.i hD
    refine ⟨fun i m H => m = xs.length - i ∧ i ≤ xs.length ∧ ∃ Wi, Wi.H = H ∧ Stp ε W2 Wi ∧ DMut K Wi D ((xs.take i).foldl (fun kv x => kput kv (f x) (g x)) []) ∧ ((xs.take i).foldl (fun kv x => kput kv (f x) (g x)) []).length ≤ i, ⟨xs.length, rfl, Nat.zero_le _, W2.put D (.dK []) (W2.free hD), rfl, ⟨md_mut (.refl _ _) (W2.free hD) hD, i_put DS g2.i _⟩, DMut.new W2 hD, Nat.le_refl _⟩, ?_⟩
    rintro i m H ⟨rfl, hle, Wi, rfl, gi, dm, dl⟩
    have si : S Wi := sg _ _ s2 gi
    by_cases hlt : i < xs.length
    · refine .inr ⟨src.go i Wi si hlt, fun H => i + 1 ≤ xs.length ∧ ∃ Wi, Wi.H = H ∧ Stp ε W2 Wi ∧ DMut K Wi D ((xs.take (i + 1)).foldl (fun kv x => kput kv (f x) (g x)) []) ∧ ((xs.take (i + 1)).foldl (fun kv x => kput kv (f x) (g x)) []).length ≤ i + 1, fun H' h' => ⟨_, by omega, rfl, h'⟩, fun v H'' hy => ?_⟩
      obtain ⟨x, W3, rfl, g3', hx, r⟩ := src.yld i Wi v H'' si hlt hy
      have g3 : Stp ε Wi W3 := gi.rf.and g3'
      have hm := List.mem_of_getElem? hx
      have G3 := ((g1.trans g2).trans gi).trans g3
      refine ⟨wipe1, et_yes (ε := ε) W3 g3.rf _ fun W4 g4 => ?_⟩
      rw [if_pos rfl]
      have G4 := G3.trans g4
      refine hk x v W4 hm G4 (rep_s g4 r) W4 g4.rf _ fun u W5 g5 eu => he x v W5 hm (G4.trans g5) (rep_s g5 (rep_s g4 r)) W5 g5.rf _ fun w W6 g6 rw' => ?_
      have G6 : Stp ε Wi W6 := ((g3.trans g4).trans g5).trans g6
      obtain ⟨ks, e6, r6⟩ := (dm.s G6 DS).ex
      have b6 := (dm.s G6 DS).b
      have tk' : xs.take (i + 1) = xs.take i ++ [x] := by rw [List.take_add_one, hx]; rfl
      have ef : (xs.take (i + 1)).foldl (fun kv x => kput kv (f x) (g x)) [] = kput ((xs.take i).foldl (fun kv x => kput kv (f x) (g x)) []) (f x) (g x) := by rw [tk', List.foldl_append]; rfl
      refine ⟨ks, PyKey.key (f x), eu, e6, by rw [KReps.len r6]; exact Evl.sz_lt (by omega), hlt, W6.put D _ b6, rfl, ⟨md_mut (gi.trans G6).md b6 hD, i_put DS G6.i _⟩, ⟨b6, _, upd_same, ?_⟩, ?_⟩
      · rw [ef]
        exact KReps.put r6 (f x) rw'
      · rw [ef]
        have := kput_len ((xs.take i).foldl (fun kv x => kput kv (f x) (g x)) []) (f x) (g x)
        omega
    · have e : i = xs.length := by omega
      subst e
      rw [List.take_length] at dm
      exact .inl ⟨src.stop _ Wi si (Nat.le_refl _), k D Wi (g2.trans gi) (by
        cases e : W1.H D with
        | none => rfl
        | some o => exact absurd hD (g2.md.d D (by rw [e]; exact fun z => by cases z))) dm⟩
end
/-- xs = xs + ys, xs a list that changes: a new one that may change -/
theorem s_catM {α : Type} [Py α] {K : Fg} {σ : SS} {W : Wd} {D : Ends} {te : TE} {i : Nat} {d : Addr} {xs ys : List α} (hd : σ[i]? = some (some (.ref d))) (m : LMut K W d xs) (h : EvR pur K te σ W ys) (hl : xs.length + ys.length ≤ 100000)
    (q : ∀ d' W', Grow W W' → W.H d' = none → LMut K W' d' (xs ++ ys) → D.nx (σ.set i (some (.ref d'))) W'.H) : tAsg (tOp rCat (tVar i) te) (gName i) D σ W.H := ⟨_, hd, h W (.start trivial) _ fun v W1 g1 ⟨b, us, e, s, r⟩ => by
  obtain ⟨vs, e1, r1⟩ := (m.gr g1.pure).ex
  refine ⟨d, b, vs, us, rfl, e, e1, W1.sub.el s, Evl.sz_of (by rw [Reps.len r1, Reps.len r]; exact hl), fun p hp => q p (W1.put p _ (W1.free hp)) (g1.pure.trans (W1.grow_put hp)) ?_ ⟨W1.free hp, _, upd_same, Reps.app r1 r⟩⟩
  cases z : W.H p with
  | none => rfl
  | some o => exact absurd hp (g1.md.d p (by rw [z]; exact fun y => by cases y))⟩
theorem q_asgG {α : Type} [Py α] {ε : Ef} {K : Fg} {σ : SS} {W : Wd} {D : Ends} {te : TE} {g : TG} {tz : TS} {x : α} (h : EvR ε K te σ W x) (s : ε.I W) (k : ∀ v W', Stp ε W W' → rep K W'.B v x → g v σ W'.H fun σ2 H2 => tz D σ2 H2) : tSeq (tAsg te g) tz D σ W.H := h W (.start s) _ k
theorem EvJ.toIs {α : Type} [Py α] {ε : Ef} {K : Fg} {wi : TI} {σ : SS} {W : Wd} {xs ys : List α} (h : EvJ ε K wi σ W xs) (e : xs = ys) : EvJ ε K wi σ W ys := e ▸ h
end B
/-! B: a row that is a list or a tuple, walked; sorted(set(tuple)); a tuple's steps -/
namespace BY
open PySem PySem.Spec PyProof.Rows L2
section
variable {prog : Program} {w : World} {A : Around} {E : Value → Shared → Prop} {s : Shared} {a : Addr}
theorem sorted_setO {S : Int → Bool} {n : Nat} {Q : Value → Shared → Prop} (R : SetR w s.heap a S n) (hh : A.handled = none) (hz0 : n ≤ 4000)
    (hQ : ∀ s' p (out : List Value) (c : Nat) (ns : List Int), (∀ b o, s.heap.get? b = some o → s'.heap.get? b = some o) → s'.gens = s.gens → s'.os = s.os → s.heap.objs.size ≤ p →
      s'.heap.get? p = some (seqObj "list" out.toArray c) → IntsAre out ns → ns.Pairwise (· < ·) → (∀ k, k ∈ ns ↔ S k = true) → ns.length = n → Q (.ref p) s') :
    wpAny (model prog w) A (call (.builtin "sorted") [.ref a]) Q E s := by
  obtain ⟨o, es, ep, t, ho, hex, hd, g, nd, hm, hb, hf, hn, hr, hl⟩ := R
  refine Calls.call_function_entry kind_sorted plain_sorted entry_sorted (args_sorted1 _) ?_
  unfold Builtin.«sorted»
  refine wpAny_bind (m := checkCount "sorted" 1 1 _) (wpAny_pure ?_)
  refine wpAny_bind (collect_set (A := A.in1) hh ⟨o, ho, hex.1, hd⟩ hf hb hr hl fun s1 vs k1 hz g1 o1 pm => ?_)
  have hvl : vs.length = n := by rw [pm.length_eq, List.length_map, Array.length_toList]; exact hn
  have hI : IntsAre vs (vs.map Builtin.Re.reRawOf) := ints_of vs fun v hv => by
    obtain ⟨e, he, q⟩ := List.mem_map.mp (pm.mem_iff.mp hv)
    obtain ⟨k, tk, h1, _⟩ := g e he
    exact ⟨k, tk, by rw [← q]; exact h1⟩
  have pk : (vs.map Builtin.Re.reRawOf).Perm (es.toList.map keyOf) := by
    have q := pm.map Builtin.Re.reRawOf
    rw [List.map_map] at q
    exact q
  have hzl : vs.length ≤ sizeLine := by rw [hvl, sizeLine_eq]; omega
  refine wpAny_bind (wpAny_newList ?_ hzl)
  have hoL : (s1.heap.push (seqObj "list" vs.toArray 0)).get? s1.heap.objs.size = some (seqObj "list" vs.toArray 0) := Heap.get?_push_size _ rfl
  refine wpAny_bind (wpAny_holding (wpAny_call_entry slot_list_sort ⟨_, hoL, rfl⟩ entry_list_sort (SrtO.list_sort_ord SrtO.swo_int hoL hzl (fun h2 => SrtO.ints_sortable hI h2) fun out hs hb' => ⟨_, rfl, ?_⟩) (args_list_sort _)))
  obtain ⟨c, hc⟩ := sortedHeap_at (vs := vs) (out := out.toArray) hoL
  obtain ⟨a1, a2, a3⟩ := SrtO.ints_out hI hs hb'
  have pn : (out.map SrtO.iv).Perm (es.toList.map keyOf) := a2.trans pk
  refine wpAny_pure ⟨_, rfl, hQ _ s1.heap.objs.size out c (out.map SrtO.iv) (fun b u e => ?_) g1 o1 hz hc a1 (lt_of_le_nodup _ a3 (pn.nodup_iff.mpr nd)) (fun k => by rw [pn.mem_iff, ← hm k]) ?_⟩
  · have q := k1 b u e
    have hlt := Heap.lt_size q
    show (sortedHeap (s1.heap.push (seqObj "list" vs.toArray 0)) s1.heap.objs.size vs out.toArray).get? b = some u
    rw [sortedHeap_old (Nat.ne_of_lt hlt) (by rw [size_push']; exact Nat.lt_succ_of_lt hlt)]
    exact Heap.get?_push_of_some _ q
  · rw [pn.length_eq, List.length_map, Array.length_toList]; exact hn
end
section
variable {X : Cx} {tg : Expr}
/-- sorted(set(t)), a tuple of ints -/
def tSortSet (K : PySem.W.Frag) (ta : TE) : TE := fun σ H Q => ta σ H fun x H1 => ∃ (l : Addr) (ns : List Int), x = .ref l ∧ SqT K H1 l (ns.map V.int) ∧ ns.length ≤ 4000 ∧
  ∀ (ns' : List Int) (p : Addr), ns'.Pairwise (· < ·) → (∀ k, k ∈ ns' ↔ k ∈ ns) → H1 p = none → Q (.ref p) (upd H1 p (.lst (ns'.map V.int)))
theorem set_sorted {pins : List (Addr × Obj)} {σ : L2.St} {H1 : Hp} {s2 : Shared} {b : Addr} {ns : List Int} {c : Nat} {Q : VK} (I2 : L2.Inv X pins σ H1 s2) (hS : SetR X.w s2.heap b (fun j => decide (j ∈ ns)) c) (hc4 : c ≤ 4000) (hc : X.calm = true)
    (q1 : ∀ (ns' : List Int) (p : Addr), ns'.Pairwise (· < ·) → (∀ k, k ∈ ns' ↔ k ∈ ns) → H1 p = none → Q (.ref p) (upd H1 p (.lst (ns'.map V.int)))) :
    wpAny (model X.prog X.w) X.A (call (.builtin "sorted") [.ref b]) (EP X pins σ Q) X.xe s2 := by
  refine sorted_setO hS (I2.ok.hd hc) hc4 fun s' p out c2 ns' k g o hp hg' hi hs hm' hl' => ?_
  have hlen' : (ns'.map V.int).length ≤ sizeLine := by rw [List.length_map, hl', sizeLine_eq]; omega
  have hn : H1 p = none := I2.hok.fresh hp
  have J : Inv X pins σ (upd H1 p (.lst (ns'.map V.int))) { s2 with heap := s'.heap, gens := s'.gens, drawn := s'.drawn, toks := s'.toks } :=
    I2.call (ch := []) (Un.laid k hp hn) (I2.hok.laid k hp ⟨hlen', out, c2, vals_of_ints hi, hg'⟩) (by rw [g]; exact I2.bare) (fun _ z => nomatch z)
  have e : s' = { s2 with heap := s'.heap, gens := s'.gens, drawn := s'.drawn, toks := s'.toks } := by
    cases s'
    cases s2
    cases o
    rfl
  rw [e]
  exact ⟨.ref p, _, J, rfl, q1 ns' p hs (fun k => by rw [hm' k, decide_eq_true_eq]) hn⟩
theorem pe_sortSet {a : Expr} {ta : TE} {p p2 q pos : Pos} (hg : Gl X "sorted") (hm : X.mg "sorted" = none) (hg2 : Gl X "set") (hm2 : X.mg "set" = none) (ha : PE X a ta) (hc : X.calm = true := by rfl)
    (na : starEach [a] X.env = (false, eval a X.env) :: starEach [] X.env := by rfl) : PE X (.Call (.Name "sorted" p) [.Call (.Name "set" p2) [a] [] q] [] pos) (tSortSet X.K ta) := by
  refine ⟨fun pins s σ H Q I h => ?_⟩
  refine Call_ (ld_blt I hg hm (show bootBuiltins "sorted" = some (.builtin "sorted") by decide +kernel) ?_)
  refine PyProof.Rows.callWith_builtin1 (PyProof.Rows.args_cons ?_ rfl) rfl rfl
  refine Call_ (ld_blt I hg2 hm2 boot_set ?_)
  refine PyProof.Rows.callWith_type1 (PyProof.Rows.args_cons (thn (ha.run pins s σ H _ I h) fun v s1 ⟨x, H1, I1, r1, q1⟩ => PyProof.Rows.args_nil ?_) na) na rfl
  obtain ⟨l, ns, rfl, hq, hl, q1⟩ := q1
  cases r1
  obtain ⟨its, r, pl, hz⟩ := I1.tuple hq
  have hlen : its.length = ns.length := by rw [← r.length, List.length_map]
  refine call_set_tupI ns (I1.ok.hd hc) (items := its.toArray) ?_ (by simpa using r.ints) (by unfold scanBound; omega) fun h' tk c hS hc' hk => ?_
  · exact pl
  refine PyProof.Rows.args_nil ?_
  have I2 : Inv X pins σ H1 { s1 with heap := h', toks := tk } := I1.kept fun b o e => hk b o e
  exact set_sorted I2 hS (by omega) hc q1
/-- a row, a list or a tuple, walked -/
def iSeq (K : PySem.W.Frag) (tl : TE) : TI := fun σ H R => iList K tl σ H R ∨ iTup K tl σ H R
theorem pi_seq {l : Expr} {tl : TE} (hl : PE X l tl) : PI X tg l (iSeq X.K tl) := by
  refine ⟨fun pins s σ H R I h => ?_⟩
  rcases h with h | h
  · exact (pi_list hl).run pins s σ H R I h
  · exact (pi_tup hl).run pins s σ H R I h
/-! ### t[lo:hi:k] -/
theorem vals_pick {xs : List V} {us : List Value} (r : Vals xs us) : ∀ l : List Nat, Vals (l.filterMap fun m => xs[m]?) (l.filterMap fun m => us.toArray[m]?)
  | [] => .nil
  | m :: l => by
    have ih := vals_pick r l
    cases hx : xs[m]? with
    | none =>
      have hu := r.none_of hx
      rw [List.filterMap_cons_none hx, List.filterMap_cons_none (by simpa using hu)]
      exact ih
    | some x =>
      obtain ⟨u, hu, ru⟩ := r.get hx
      rw [List.filterMap_cons_some hx, List.filterMap_cons_some (b := u) (by simpa using hu)]
      exact .cons ru ih
/-- the places of [lo:hi:k] among n -/
def stepIx (lo hi : Option Int) (k : Int) (n : Nat) : List Nat :=
  (List.range (Builtin.Slice.slicePlaces (Builtin.Slice.sliceAdjust lo hi k n).1 (Builtin.Slice.sliceAdjust lo hi k n).2 k)).map fun (m : Nat) => ((Builtin.Slice.sliceAdjust lo hi k n).1 + (m : Int) * k).toNat
def tTupStep (K : PySem.W.Frag) (te : TE) (lo hi : Option Int) (k : Int) : TE := fun σ H Q => te σ H fun x H1 => ∃ a xs, x = .ref a ∧ SqT K H1 a xs ∧ (stepIx lo hi k xs.length).length ≤ sizeLine ∧
  ∀ p, H1 p = none → Q (.ref p) (upd H1 p (.tup ((stepIx lo hi k xs.length).filterMap fun m => xs[m]?)))
/-- a part of a slice that is left out or is a number in the text -/
structure PCn (X : Cx) (e : Option Expr) (o : Option Int) : Prop where
  run : ∀ (pins : List (Addr × Obj)) (s : Shared) (σ : L2.St) (H : Hp) (R : Value → Shared → Prop), Inv X pins σ H s → (∀ u, IsPart u o → ∀ s', Inv X pins σ H s' → R u s') → wpAny (model X.prog X.w) X.A (evalPart e X.env) R X.xe s
theorem pc_none : PCn X none none := ⟨fun pins s σ H R I h => thn (po_none.run pins s σ H (fun o H2 => o = none ∧ H2 = H) I ⟨rfl, rfl⟩) fun vl s2 ⟨l, H2, I2, pl, el, e2⟩ => by
  subst el e2
  exact h _ pl _ I2⟩
theorem pc_pos {i : Nat} {k : Nat} {p : Pos} : PCn X (some (.Constant (.int i) k p)) (some i) := ⟨fun pins s σ H R I h => by
  have hst : PO X (some (.Constant (.int i) k p)) (tPart (tC (.int i))) := po_some pe_int
  exact thn (hst.run pins s σ H (fun o H2 => o = some (i : Int) ∧ H2 = H) I ⟨i, rfl, rfl, rfl⟩) fun vl s2 ⟨l, H2, I2, pl, el, e2⟩ => by
    subst el e2
    exact h _ pl _ I2⟩
theorem pc_neg {i : Nat} {k : Nat} {p p2 : Pos} : PCn X (some (.UnaryOp .USub (.Constant (.int i) k p) p2)) (some (-(i : Int))) := ⟨fun pins s σ H R I h => by
  have hst : PO X (some (.UnaryOp .USub (.Constant (.int i) k p) p2)) (tPart (tUn (rU fun i => .int (-i)) (tC (.int i)))) := po_some (pe_un un_neg pe_int)
  exact thn (hst.run pins s σ H (fun o H2 => o = some (-(i : Int)) ∧ H2 = H) I ⟨i, rfl, _, rfl, rfl, rfl⟩) fun vl s2 ⟨l, H2, I2, pl, el, e2⟩ => by
    subst el e2
    exact h _ pl _ I2⟩
section
variable {prog : Program} {w : World} {A : Around} {E : Value → Shared → Prop} {s : Shared}
theorem sliceApplied_step {sl : Addr} {vl vu vs : Value} {lo hi : Option Int} {k : Int} {n : Nat} {Q : Int × Int × Nat → Shared → Prop} (hs : s.heap.IsSliceOf sl vl vu vs) (pl : IsPart vl lo) (pu : IsPart vu hi) (ps : IsPart vs (some k)) (h0 : k ≠ 0)
    (h : Q ((Builtin.Slice.sliceAdjust lo hi k n).1, k, Builtin.Slice.slicePlaces (Builtin.Slice.sliceAdjust lo hi k n).1 (Builtin.Slice.sliceAdjust lo hi k n).2 k) s) : wpAny (model prog w) A (Builtin.Slice.sliceApplied (.ref sl) (pure (n : Int))) Q E s := by
  obtain ⟨os, hos, hcs, hds⟩ := id hs
  unfold Builtin.Slice.sliceApplied Builtin.Slice.sliceFields
  refine wpAny_bind (wpAny_bind (wpAny_field hos hds (x := vl) rfl (wpAny_bind (wpAny_field hos hds (x := vu) rfl (wpAny_bind (wpAny_field hos hds (x := vs) rfl (wpAny_pure ?_)))))))
  refine wpAny_bind (HT.slicePart_ ps ?_)
  show wpAny _ _ (if (k == 0) = true then _ else _) _ _ s
  rw [if_neg (by simpa using h0)]
  refine wpAny_bind (HT.slicePart_ pl (wpAny_bind (HT.slicePart_ pu (wpAny_bind (wpAny_pure ?_)))))
  exact wpAny_pure h
theorem getItem_tuple_step {t sl : Addr} {items : Array Value} {vl vu vs : Value} {lo hi : Option Int} {k : Int} {Q : Value → Shared → Prop} (ht : IsTup s.heap t items) (hs : s.heap.IsSliceOf sl vl vu vs) (pl : IsPart vl lo) (pu : IsPart vu hi) (ps : IsPart vs (some k)) (h0 : k ≠ 0) (h1 : k ≠ 1)
    (h : Q (.ref s.heap.objs.size) { s with heap := s.heap.push { cls := .type "tuple", data := .seq ((stepIx lo hi k items.size).filterMap fun m => items[m]?).toArray } })
    (hsz : (stepIx lo hi k items.size).length ≤ sizeLine) : wpAny (model prog w) A (getItem (.ref t) (.ref sl)) Q E s := by
  have htake : sizeOk (.seq ((stepIx lo hi k items.size).filterMap fun m => items[m]?).toArray) := by
    show ((stepIx lo hi k items.size).filterMap fun m => items[m]?).toArray.size ≤ sizeLine
    rw [List.size_toArray]
    exact Nat.le_trans (List.length_filterMap_le _ _) hsz
  obtain ⟨os, hos, hcs, hds⟩ := id hs
  have hTs : s.TypeIs (.ref sl) "slice" := ⟨os, hos, hcs⟩
  unfold getItem
  try with_reducible refine wpAny_holding ?_
  first | refine wpAny_bind (wpAny_pure ?_) | skip
  refine wpAny_bind (wpAny_sequenceKey ht.typeIs (by decide) ?_)
  refine wpAny_bind (wpAny_callSpecial?_slot (name := Str.ofString "__getitem__") ht.typeIs PyProof.Rows.slot_tuple_getitem
    (wpAny_call_entry PyProof.Rows.slot_tuple_getitem ht.typeIs entry_tuple_getitem ?_ (args_tuple_getitem _ _)))
  show wpAny _ _ (Builtin.Tuple.tupleItemsOf (.ref t) >>= _) _ _ s
  refine wpAny_bind (tupleItemsOf_ ht ?_)
  refine wpAny_bind (wpAny_typeOf hTs ?_)
  rw [if_pos (by decide)]
  refine wpAny_bind (sliceApplied_step hs pl pu ps h0 ?_)
  have hno : ∀ a b : Bool, ¬ ((a && k == 1 && b) = true) := fun a b q => by
    rw [Bool.and_eq_true, Bool.and_eq_true] at q
    exact h1 (eq_of_beq q.1.2)
  show wpAny _ _ (if ((Builtin.Slice.sliceAdjust lo hi k items.size).1 == 0 && k == 1 && Builtin.Slice.slicePlaces (Builtin.Slice.sliceAdjust lo hi k items.size).1 (Builtin.Slice.sliceAdjust lo hi k items.size).2 k == items.size) = true then _ else _) _ _ s
  rw [if_neg (hno _ _)]
  have e : (List.range (Builtin.Slice.slicePlaces (Builtin.Slice.sliceAdjust lo hi k items.size).1 (Builtin.Slice.sliceAdjust lo hi k items.size).2 k)).filterMap (fun (m : Nat) => items[((Builtin.Slice.sliceAdjust lo hi k items.size).1 + (m : Int) * k).toNat]?)
      = (stepIx lo hi k items.size).filterMap fun m => items[m]? := by
    unfold stepIx
    rw [List.filterMap_map]
    rfl
  rw [e]
  first
    | exact wpAny_bind (m := Builtin.Tuple.tupleExact _) (wpAny_newObj_type (wpAny_pure ⟨_, rfl, wpAny_pure h⟩) htake)
    | exact wpAny_bind (m := Builtin.Tuple.tupleExact _) (wpAny_newObj_type (wpAny_bind (wpAny_pure (wpAny_pure ⟨_, rfl, wpAny_pure h⟩))) htake)
    | exact wpAny_bind (wpAny_bind (m := Builtin.Tuple.tupleExact _) (wpAny_newObj_type (wpAny_pure (wpAny_pure ⟨_, rfl, wpAny_pure h⟩)) htake))
    | exact wpAny_bind (wpAny_bind (m := Builtin.Tuple.tupleExact _) (wpAny_newObj_type (wpAny_pure ⟨_, rfl, wpAny_pure h⟩) htake))
end
theorem pe_tupStep {e : Expr} {te : TE} {lo hi : Option Expr} {st : Expr} {ol oh : Option Int} {k : Int} {p3 pos : Pos} (he : PE X e te) (hl : PCn X lo ol) (hh : PCn X hi oh) (hk : PCn X (some st) (some k)) (h0 : k ≠ 0) (h1 : k ≠ 1) : PE X (.Subscript e (.Slice lo hi (some st) p3) pos) (tTupStep X.K te ol oh k) := by
  refine ⟨fun pins s σ H Q I h => ?_⟩
  refine Subscript_ (thn (he.run pins s σ H _ I h) fun v s1 ⟨x, H1, I1, r1, q1⟩ => ?_)
  obtain ⟨a, xs, ex, hx, hsz, q⟩ := q1
  subst ex
  cases r1
  refine wpAny_Slice (hl.run pins s1 σ H1 _ I1 fun vl pl s2 I2 => hh.run pins s2 σ H1 _ I2 fun vu pu s3 I3 => hk.run pins s3 σ H1 _ I3 fun vs ps s4 I4 => ?_)
  have I5 : Inv X pins σ H1 { s4 with heap := s4.heap.push { cls := .type "slice", data := .fields #[vl, vu, vs] } } := I4.kept (t' := s4.toks) fun b ob q => Heap.get?_push_of_some _ q
  obtain ⟨its, r, ht, hz⟩ := I5.tuple hx
  have hlen : its.toArray.size = xs.length := by rw [List.size_toArray]; exact r.length.symm
  show wpAny (model X.prog X.w) X.A (subscriptTail e (.Slice lo hi (some st) p3) (.ref a) (.ref s4.heap.objs.size)) (EP X pins σ Q) X.xe { s4 with heap := s4.heap.push { cls := .type "slice", data := .fields #[vl, vu, vs] } }
  refine tail_any (ops := [.ref a, .ref s4.heap.objs.size]) ht.typeIs PyProof.Rows.slot_tuple_getitem.lookup ?_ (by with_unfolding_all rfl)
  refine getItem_tuple_step ht (Heap.IsSliceOf.new _ vl vu vs) pl pu ps h0 h1 ?_ (by rw [hlen]; exact hsz)
  rw [hlen]
  refine ⟨.ref _, _, I5.laid (t' := s4.toks) (o := .tup ((stepIx ol oh k xs.length).filterMap fun m => xs[m]?)) (fun b ob q => Heap.get?_push_of_some _ q) (Nat.le_refl _) ?_, rfl, q _ (I5.hok.fresh (Nat.le_refl _))⟩
  exact ⟨Nat.le_trans (List.length_filterMap_le _ _) hsz, _, vals_pick r _, IsTup.new _ _⟩
end
end BY
namespace B
open PySem L2
open PySem.W (Tup T3 T4 Datum DatumOrd)
open Evl (Ex)
section
variable {α β γ δ : Type} [Py α] [Py β] [Py γ] [Py δ] {K : Fg} {W W' : Wd} {σ : SS} {ε : Ef} {te ta tb tc td : TE}
theorem asc_uniq : ∀ {xs ys : List Int}, xs.Pairwise (· < ·) → ys.Pairwise (· < ·) → (∀ k, k ∈ xs ↔ k ∈ ys) → xs = ys
  | [], [], _, _, _ => rfl
  | [], y :: ys, _, _, h => absurd ((h y).mpr List.mem_cons_self) (by simp)
  | x :: xs, [], _, _, h => absurd ((h x).mp List.mem_cons_self) (by simp)
  | x :: xs, y :: ys, h1, h2, h => by
    obtain ⟨a1, a2⟩ := List.pairwise_cons.mp h1
    obtain ⟨b1, b2⟩ := List.pairwise_cons.mp h2
    have e : x = y := by
      have p := (h x).mp List.mem_cons_self
      have q := (h y).mpr List.mem_cons_self
      rcases List.mem_cons.mp p with p | p
      · exact p
      · rcases List.mem_cons.mp q with q | q
        · exact q.symm
        · have := b1 x p
          have := a1 y q
          omega
    subst e
    rw [asc_uniq a2 b2 fun k => ⟨fun m => ?_, fun m => ?_⟩]
    · rcases List.mem_cons.mp ((h k).mp (List.mem_cons_of_mem _ m)) with e | e
      · subst e; have := a1 _ m; omega
      · exact e
    · rcases List.mem_cons.mp ((h k).mpr (List.mem_cons_of_mem _ m)) with e | e
      · subst e; have := b1 _ m; omega
      · exact e
theorem ev_sortSetA {xs : Tup Int} (h : EvR ε K ta σ W xs) (hl : xs.items.length ≤ 4000) (hp : xs.items.Pairwise (· < ·)) : EvR ε K (BY.tSortSet K ta) σ W xs.items := fun W1 g1 Q k => h W1 g1 _ fun v W2 g2 ⟨a, vs, e, s, r⟩ => by
  have e2 := reps_int r
  subst e2
  refine ⟨a, xs.items, e, SqT.of (W2.sub.et s), hl, fun ns p hs hm hn => ?_⟩
  rw [asc_uniq hs hp hm]
  exact k _ (W2.add p _) (g2.and (W2.grow_add hn)) ⟨p, _, rfl, upd_same, Reps.mono (exExt (W2.grow_add hn).b) r⟩
theorem ei_seqL {xs : List α} (h : EvR ε K te σ W xs) : EvJ ε K (BY.iSeq K te) σ W xs := fun W1 g1 R k => .inl (ei_list h W1 g1 R k)
theorem ei_seqT {xs : Tup α} (h : EvR ε K te σ W xs) : EvJ ε K (BY.iSeq K te) σ W xs.items := fun W1 g1 R k => .inr (ei_tup h W1 g1 R k)
/-- a tuple of four, [::2] -/
theorem ev_stepA {p : T4 α β γ δ} (h : EvR ε K te σ W p) : EvR ε K (BY.tTupStep K te none none 2) σ W (p.a, p.c) := fun W1 g1 Q k => h W1 g1 _ fun v W2 g2 ⟨a, x, y, z, w, e, s, r1, r2, r3, r4⟩ => by
  refine ⟨a, _, e, SqT.of (W2.sub.et s), (by decide : (BY.stepIx none none 2 4).length ≤ sizeLine), fun p hp => ?_⟩
  have e2 : (BY.stepIx none none 2 [x, y, z, w].length).filterMap (fun m => [x, y, z, w][m]?) = [x, z] := by
    have : BY.stepIx none none 2 4 = [0, 2] := by decide
    show (BY.stepIx none none 2 4).filterMap _ = _
    rw [this]
    rfl
  rw [e2]
  exact k _ (W2.add p _) (g2.and (W2.grow_add hp)) ⟨p, x, z, rfl, upd_same, rep_g (W2.grow_add hp) r1, rep_g (W2.grow_add hp) r3⟩
/-- a tuple of four, [2::-2] -/
theorem ev_stepB {p : T4 α β α δ} (h : EvR ε K te σ W p) : EvR ε K (BY.tTupStep K te (some 2) none (-2)) σ W (Tup.mk [p.c, p.a]) := fun W1 g1 Q k => h W1 g1 _ fun v W2 g2 ⟨a, x, y, z, w, e, s, r1, r2, r3, r4⟩ => by
  refine ⟨a, _, e, SqT.of (W2.sub.et s), (by decide : (BY.stepIx (some 2) none (-2) 4).length ≤ sizeLine), fun p hp => ?_⟩
  have e2 : (BY.stepIx (some 2) none (-2) [x, y, z, w].length).filterMap (fun m => [x, y, z, w][m]?) = [z, x] := by
    have : BY.stepIx (some 2) none (-2) 4 = [2, 0] := by decide
    show (BY.stepIx (some 2) none (-2) 4).filterMap _ = _
    rw [this]
    rfl
  rw [e2]
  exact k _ (W2.add p _) (g2.and (W2.grow_add hp)) ⟨p, [z, x], rfl, upd_same, .cons (rep_g (W2.grow_add hp) r3) (.cons (rep_g (W2.grow_add hp) r1) .nil)⟩
theorem ro_rep {xs : List α} {n : Int} (h1 : 0 ≤ n) (h2 : n ≤ 1000) (hl : xs.length ≤ 100) : RO K rRep xs n (List.replicate n.toNat xs).flatten := fun v u W1 ⟨a, vs, e, s, r⟩ ru Q k =>
  ⟨a, n, vs, e, ru, W1.sub.el s, by omega, by omega, Evl.sz_of (by rw [Reps.len r]; exact Nat.le_trans (Nat.mul_le_mul hl (show n.toNat ≤ 1000 by omega)) (by decide)), fun p hp =>
    k _ (W1.add p _) (W1.grow_add hp) ⟨p, _, rfl, upd_same, Reps.mono (exExt (W1.grow_add hp).b) (reps_rep r _)⟩⟩
theorem s_par {D : Ends} {i j : Nat} {P R : V → Wd → Prop} (ha : EvP ε ta σ W P) (hb : EvP ε tb σ W R) (s : ε.I W) (mono : ∀ v W W', Stp ε W W' → P v W → P v W')
    (k : ∀ v u W', Stp ε W W' → P v W' → R u W' → D.nx ((σ.set i (some v)).set j (some u)) W'.H) : tPar i j (tCons ta (tCons tb tNil)) D σ W.H :=
  ha W (.start s) _ fun v W1 g1 p => hb W1 g1 _ fun u W2 g2 r => ⟨v, u, rfl, k v u W2 (g1.trans g2) (mono v W1 W2 g2 p) r⟩
theorem q_par3 {D : Ends} {tz : TS} {i j l : Nat} {P R S : V → Wd → Prop} (ha : EvP ε ta σ W P) (hb : EvP ε tb σ W R) (hc : EvP ε tc σ W S) (s : ε.I W) (m1 : ∀ v W W', Stp ε W W' → P v W → P v W') (m2 : ∀ v W W', Stp ε W W' → R v W → R v W')
    (k : ∀ v u w W', Stp ε W W' → P v W' → R u W' → S w W' → tz D (((σ.set i (some v)).set j (some u)).set l (some w)) W'.H) : tSeq (tPar3 i j l (tCons ta (tCons tb (tCons tc tNil)))) tz D σ W.H :=
  ha W (.start s) _ fun v W1 g1 p => hb W1 g1 _ fun u W2 g2 r => hc W2 (g1.trans g2) _ fun w W3 g3 q => ⟨v, u, w, rfl, k v u w W3 ((g1.trans g2).trans g3) (m1 v W1 W3 (g2.trans g3) p) (m2 u W2 W3 g3 r) q⟩
end
end B
/-! BX: errors that are kept behind their except suite -/
namespace BX
open PySem PySem.Spec PyProof.Rows L2
/-- an error of the class cls that was caught stands at a -/
def ExK (cls : Value) (d : Option Addr) (a : Addr) : HO := .ext fun h => ∃ (oe : Obj) (vs : Array Value), h.get? a = some oe ∧ Zc cls d oe ∧ oe.data = .fields vs
section
variable {X : Cx} {pins : List (Addr × Obj)} {σ : L2.St} {H : Hp} {s : Shared}
/-- an object that isn't tracked is tracked from now on -/
theorem track {a : Addr} {oe : Obj} {vs : Array Value} {cls : Value} {d : Option Addr} (I : L2.Inv X pins σ H s) (ha : s.heap.get? a = some oe) (hz : Zc cls d oe) (hd : oe.data = .fields vs) (n0 : X.s_0.heap.get? a = none) (na : H a = none) (nL : a ≠ X.env.locals) (hp : ∀ p ∈ X.pn ++ pins, p.1 ≠ a) :
    L2.Inv X pins σ (upd H a (ExK cls d a)) s := by
  have ne0 : ∀ b o, X.s_0.heap.get? b = some o → b ≠ a := fun b o e z => by
    rw [z, n0] at e
    cases e
  have neS : ∀ b o, H b = some o → b ≠ a := fun b o e z => by
    rw [z, na] at e
    cases e
  refine ⟨I.ok, I.os, I.bare, ⟨I.base.keep, I.base.slot, fun b o e n hq => ?_, I.base.there, fun b xs e => ?_, fun b o u e => ?_, fun b ps e => ?_⟩, I.loc, I.cell, ?_, fun x c e => ?_, fun p hq => ?_, fun b u e => ?_, I.len⟩
  · rw [upd_ne (ne0 b o e)]
    exact I.base.free b o e n hq
  · have q := I.base.tups b xs e
    rw [upd_ne (neS b _ q)]
    exact q
  · have q := I.base.frzs b o u e
    rw [upd_ne (neS b _ q)]
    exact q
  · obtain ⟨m, q⟩ := I.base.tbls b ps e
    exact ⟨m, by rw [upd_ne (neS b _ q)]; exact q⟩
  · rw [upd_ne (Ne.symm nL)]
    exact I.free
  · have hc : c ≠ a := fun z => by
      obtain ⟨v, o, ho, hv⟩ := I.cell x c e
      rw [z, ha] at ho
      cases ho
      rw [hd] at hv
      cases hv
    rw [upd_ne hc]
    exact I.freeC x c e
  · obtain ⟨e, n, ne, nf, dd⟩ := I.pin p hq
    exact ⟨e, by rw [upd_ne (hp p hq)]; exact n, ne, nf, dd⟩
  · by_cases hb : b = a
    · subst hb
      rw [upd_same] at e
      cases e
      exact ⟨⟨oe, vs, ha, hz, hd⟩, ⟨oe, ha⟩, fun _ _ ⟨o, v, q, r⟩ k => ⟨o, v, k o q, r⟩⟩
    · rw [upd_ne hb] at e
      exact (I.hok b u e).stay (fun c v _ q => q) (fun c q => by rw [upd_ne (neS c _ q)]; exact q) fun c xs q => by rw [upd_ne (neS c _ q)]; exact q
end
/-- what the clause 'except x as n' wishes of an exception of the body, where the error stays behind the suite -/
def wAsK (K : PySem.W.Frag) (c : Value) (i : Nat) (ts : Addr → Value → Option Addr → TS) (Wout : WX) (D : Ends) : WX := fun cls d σ H =>
  ∃ b, PySem.W.exmOne K cls c = some b ∧ (b = true → ∀ a, H a = none → ts a cls d { nx := fun σ' H' => H' a = none → D.nx (σ'.set i none) (upd H' a (ExK cls d a)), rt := D.rt, bk := fun σ' H' => D.bk (σ'.set i none) H', ct := fun σ' H' => D.ct (σ'.set i none) H' } (σ.set i (some (.ref a))) H) ∧
    (b = false → Wout cls d σ H)
section
variable {X : Cx} {x n : Str} {c : Value} {i : Nat} {body suite : List Stmt} {b₀ : Stmt} {np pos pos' : Pos} {tb : WX → TS} {ts : Addr → Value → Option Addr → TS} {Wout : WX}
theorem ps_try_asK (hs : X.stack = X.env :: X.outer) (hf : X.env.frame = some X.env.locals) (hN : X.N.Nodup) (hi : X.N[i]? = some n) (hln : X.env.kindOf n = some .local) (hc : Names X x c) (tk : Takes X Wout)
    (hb : ∀ (W : WX) (pn : List (Addr × Obj)) (xe : Value → Shared → Prop), Takes (X.tr pn xe) W → PassesOwn (model X.prog X.w) X.A X.env xe → PSs (X.tr pn xe) body (tb W))
    (hsu : ∀ (a : Addr) (oe : Obj) (cls : Value) (d : Option Addr) (pn : List (Addr × Obj)), Zc cls d oe → (∃ vs, oe.data = .fields vs) → PSs (X.suite a ((a, oe) :: pn)) (b₀ :: suite) (ts a cls d)) (hex : X.ex = []) :
    PS X (.Try body [.ExceptHandler (some (.Name x np)) (some n) (b₀ :: suite) pos'] [] [] pos) (fun D σ H => tb (wAsK X.K c i ts Wout D) D σ H) := by
  refine ⟨fun pins s σ H D I h => ?_⟩
  have ok := I.ok
  have hfr : X.A.frames = some (X.env :: X.outer) := by rw [ok.frames, hs]
  have hloc : Loc X.env.scope n := .inl hln
  refine wpAny_Try_except ?_
  refine wpAny_mono ((hb (wAsK X.K c i ts Wout D) (X.pn ++ pins) (fun e s₁ => wpAny (model X.prog X.w) X.A (noteFrame e X.env) (fun _ s₂ => wpAny (model X.prog X.w) X.A (setFlight e none) (fun _ s₃ =>
    wpAny (model X.prog X.w) X.A (handleBy e X.env [.ExceptHandler (some (.Name x np)) (some n) (b₀ :: suite) pos']) (SP X pins D) X.xe s₃) X.xe s₂) X.xe s₁) (fun u s' xx => ?_) PassesOwn.looking).run [] s σ H D (I.toTry _) h) (fun f s1 hsp => ?_) (fun e s1 he => he)
  · -- the catch
    obtain ⟨a, B, sI, pins', σ', H', cls, d, rfl, J', nb, up, sky, na, os, ag, b, hb1, hyes, hno⟩ := xx
    have J : L2.Inv X pins σ' H' sI := J'.ofTry ok
    have sky' : Sky B (X.env :: X.outer) a (Zc cls d) X.env.locals s'.heap := by rw [← hs]; exact sky
    show wpAny (model X.prog X.w) X.A (noteFrame (.ref a) X.env) _ _ _
    refine Sky.land Zc.steady hfr hf sky' fun h3 fl3 up3 => ?_
    have J3 : L2.Inv X pins σ' H' { s' with heap := h3 } := J.landed nb fl3.1 (up.trans up3) os ag
    obtain ⟨oe3, vs3, he3, hz3, hd3⟩ := fl3.there
    have notFr : ∀ {h : Heap} {o : Obj} {vs : Array Value}, h.FunFrames B (X.env :: X.outer) → h.get? a = some o → o.data = .fields vs → a ∉ frs (X.env :: X.outer) := fun {h o vs} ff e dd hm => by
      obtain ⟨_, o', e', hnf⟩ := ff.mem hm
      rw [e] at e'; cases e'
      exact hnf _ dd
    have nfr := notFr fl3.2.2.1 he3 hd3
    have nI : sI.heap.get? a = none := by
      cases q : sI.heap.get? a with
      | none => rfl
      | some o =>
        have z := nb a o q (by rw [hs]; exact nfr)
        rw [fl3.2.1] at z
        cases z
    have n0 : X.s_0.heap.get? a = none := by
      cases q : X.s_0.heap.get? a with
      | none => rfl
      | some o =>
        obtain ⟨o', z⟩ := J.base.there a o q (by rw [hex]; exact fun z => nomatch z)
        rw [nI] at z
        cases z
    have npin : ∀ p ∈ X.pn ++ pins, p.1 ≠ a := fun p hp z => by
      have q := (J.pin p hp).1
      rw [z, nI] at q
      cases q
    have nL : a ≠ X.env.locals := fun z => nfr (List.mem_filterMap.mpr ⟨X.env, List.mem_cons_self, by rw [hf, z]⟩)
    have nF : a ∉ X.fs := fun hm => by
      obtain ⟨e, he, q⟩ := List.mem_filterMap.mp hm
      exact nfr (List.mem_filterMap.mpr ⟨e, List.mem_cons_of_mem _ he, q⟩)
    have S3 := J3.suite he3 hd3 na nL nF
    refine wpAny_handleBy_cons (codeAny_handlers_test ?_) (by intro q; cases q)
    have LT : PySem.W.Looks (model X.prog X.w) h3 (typeOf (.ref a)) cls := fun A Q E s k q => wpAny_typeOf_ref (k _ _ he3) (by rw [hz3.1]; exact q)
    have LM := PySem.W.exm_one (M := model X.prog X.w) (J3.kIn) LT hb1
    have test : ∀ {Q : Value → Shared → Prop} {E : Value → Shared → Prop}, Q c { s' with heap := h3 } → wpAny (model X.prog X.w) (X.A.mark (some (.ref a))) (eval (.Name x np) X.env) Q E { s' with heap := h3 } := fun {Q E} q => by
      obtain ⟨hg, hdbg, hm | ⟨hm, hv, hnn⟩⟩ := hc
      · exact ld_glob (X := X.suite a ((a, oe3) :: (X.pn ++ pins))) S3 hg hm q hdbg
      · exact ld_blt (X := X.suite a ((a, oe3) :: (X.pn ++ pins))) S3 hg hm hv q hnn hdbg
    refine test (LM.here ?_)
    cases b with
    | true =>
      refine codeAny_handlers_suite_as ?_
      refine HandSPX.lands_againZ fl3 fun h4 fl4 up4 => ?_
      have J4 : L2.Inv X pins σ' H' { s' with heap := h4 } := J.landed nb fl4.1 ((up.trans up3).trans up4) os ag
      obtain ⟨oe4, vs4, he4, hz4, hd4⟩ := fl4.there
      have S4 := J4.suite he4 hd4 na nL nF
      refine store_ok (X := X.suite a ((a, oe4) :: (X.pn ++ pins))) (v := .ref a) S4 hN hi hloc rfl (fun s5 S5 => ?_) (.inr hln)
      refine wpAny_mono ((hsu a oe4 cls d (X.pn ++ pins) hz4 ⟨_, hd4⟩).run [] s5 _ H' _ S5 (hyes rfl a na)) (fun f s6 hsp => ?_) (fun _ _ z => False.elim z)
      have end_ : ∀ {σ6 : L2.St} {H6 : Hp} {Q : Shared → Prop}, L2.Inv X pins σ6 H6 s6 → (∀ s7, L2.Inv X pins (σ6.set i none) H6 s7 → Q s7) →
          wpAny (model X.prog X.w) X.A (do bindName X.env n .none; unbindBehindTheSuite X.env n pos') (fun _ s7 => Q s7) X.xe s6 := fun {σ6 H6 Q} S6 hq => gone_ok S6 hN hi hln hq
      cases f with
      | next =>
        obtain ⟨σ6, H6, S6, q6⟩ := hsp
        obtain ⟨p1, p2, _⟩ := S6.pin (a, oe4) (List.mem_append_left _ List.mem_cons_self)
        exact end_ (track (S6.unsuite ok) p1 hz4 hd4 n0 p2 nL npin) fun s7 J7 => ⟨_, _, J7, q6 p2⟩
      | brk =>
        obtain ⟨σ6, H6, S6, q6⟩ := hsp
        exact end_ (S6.unsuite ok) fun s7 J7 => ⟨_, _, J7, q6⟩
      | cont =>
        obtain ⟨σ6, H6, S6, q6⟩ := hsp
        exact end_ (S6.unsuite ok) fun s7 J7 => ⟨_, _, J7, q6⟩
      | ret u =>
        obtain ⟨v6, σ6, H6, S6, r6, q6⟩ := hsp
        exact end_ (S6.unsuite ok) fun s7 J7 => ⟨_, _, _, J7, r6, q6⟩
    | false =>
      show wpAny _ X.A (handleBy (.ref a) X.env []) _ _ _
      refine wpAny_handleBy_nil ?_
      obtain ⟨k1, k2, k3, oe, vs, T, oT, ts', he, hz, hd, h1, hr⟩ := id fl3
      unfold PySem.passOn
      refine wpAny_bind (wpAny_field he hd h1 ?_)
      rw [if_neg (show ¬ ((Value.ref T == Value.none) = true) from by simp)]
      have fin : wpAny (model X.prog X.w) X.A (setFlight (.ref a) X.env.frame) (fun _ s4 => wpAny (model X.prog X.w) X.A (throw (.ref a) : Sem Flow) (SP X pins D) X.xe s4) X.xe { s' with heap := h3 } := by
        rw [hf]
        refine HandSPX.setFlight_upZ fl3 fun h4 hh4 up4 => wpAny_throw (tk _ _ ?_)
        exact ⟨a, B, sI, pins, σ', H', cls, d, rfl, J, nb, (up.trans up3).trans up4, .inr (.inr (by rw [hs]; exact hh4)), na, os, ag, hno rfl⟩
      first
        | exact wpAny_bind (wpAny_pure (wpAny_bind fin))
        | exact wpAny_bind fin
  · cases f with
    | next =>
      obtain ⟨σ', H', J', q⟩ := hsp
      exact wpAny_execs_nil ⟨σ', H', J'.ofTry ok, q⟩
    | brk =>
      obtain ⟨σ', H', J', q⟩ := hsp
      exact ⟨σ', H', J'.ofTry ok, q⟩
    | cont =>
      obtain ⟨σ', H', J', q⟩ := hsp
      exact ⟨σ', H', J'.ofTry ok, q⟩
    | ret u =>
      obtain ⟨v, σ', H', J', r, q⟩ := hsp
      exact ⟨v, σ', H', J'.ofTry ok, r, q⟩
end
/-- isinstance(e, c), e an error that was kept -/
def rIsK (K : PySem.W.Frag) : List V → Hp → VK → Prop := fun xs H Q => ∃ (a D : Addr) (c : V) (cv : Value) (b : Bool), xs = [.ref a, c] ∧ H a = some (ExK (.ref D) none a) ∧ ExcC K D ∧ (∀ u, RelV c u → u = cv) ∧ PySem.W.kitOne K (.ref D) cv = some b ∧ Q (.bl b) H
theorem call_isK {X : Cx} : CallR X (.builtin "isinstance") (rIsK X.K) := by
  intro pins s σ H xs us Q I r h
  obtain ⟨a, D, c, cv, b, rfl, ha, C, hcv, e, q⟩ := h
  cases r with
  | cons rx rr =>
    cases rr with
    | cons rt rr =>
      cases rr
      cases rx
      have ec := hcv _ rt
      subst ec
      obtain ⟨oe, vs, hget, hz, hv⟩ := (I.hok a _ ha).1
      have J : PySem.W.InstAt s.heap a oe D none := by
        obtain ⟨oc, od, oda, osl⟩ := oe
        obtain ⟨h1, h2⟩ := hz
        dsimp only at h1 h2 hv
        subst h1 h2 hv
        exact ⟨hget, rfl, rfl, trivial⟩
      exact PySem.W.kia_one (PySem.W.handS_kitx_exc C.hg C.hk C.hs C.hd C.ha C.hn C.ht C.hm) I.kIn J e (fun z => nomatch z) fun tk => ⟨.bl b, H, I.kept (t' := tk) fun _ _ z => z, rfl, q⟩
/-- an error's class, over ValueError, without an __init__ of its own -/
structure ErrC (K : PySem.W.Frag) (C : Addr) : Prop where
  k : PySem.W.keepIn K (.ref C) = true
  q : PySem.W.excIn K C [.type "ValueError", .type "Exception", .type "BaseException", .type "object"] "ValueError.__new__" = true
  s : PySem.W.subIn K (.ref C) (.type "BaseException") = some true
  t : PySem.W.typeIn K (.ref C) = some (.type "type")
  e : PySem.W.exmOne K (.ref C) (.ref C) = some true
  c : ExcC K C
  v : PySem.W.kitOne K (.ref C) (.type "ValueError") = some true
/-- an error of the class at S is what «except S» names -/
theorem exm_self {K : PySem.W.Frag} {S : Addr} (h1 : PySem.W.subIn K (.ref S) (.type "BaseException") = some true) (h2 : PySem.W.isClsIn K S = true) (h3 : PySem.W.typeIn K (.ref S) = some (.type "type")) (h4 : PySem.W.subIn K (.ref S) (.ref S) = some true) :
    PySem.W.exmOne K (.ref S) (.ref S) = some true := by
  have e1 : (PySem.W.subIn K (.ref S) (.type "BaseException") == some true) = true := by rw [h1] <;> rfl
  have e2 : ((PySem.W.clsIn K S).isSome && PySem.W.typeIn K (.ref S) == some (.type "type")) = true := by
    have h2' : (PySem.W.clsIn K S).isSome = true := h2
    rw [h2', h3] <;> rfl
  show (if (PySem.W.subIn K (.ref S) (.type "BaseException") == some true) = true then (if ((PySem.W.clsIn K S).isSome && PySem.W.typeIn K (.ref S) == some (.type "type")) = true then PySem.W.subIn K (.ref S) (.ref S) else none) else none) = some true
  rw [if_pos e1, if_pos e2]
  exact h4
theorem kit_ve {K : PySem.W.Frag} {C : Addr} {T : String} (hm : PySem.W.kitMeta T = true) (h : PySem.W.subIn K (.ref C) (.type T) = some true) : PySem.W.kitOne K (.ref C) (.type T) = some true := by
  unfold PySem.W.kitOne
  rw [if_neg (show ¬ ((Value.ref C == Value.type T) = true) from fun z => by have := eq_of_beq z; cases this)]
  show (if PySem.W.kitMeta T = true then _ else _) = _
  rw [if_pos hm]
  exact h
/-- raise C('..') out of a def -/
abbrev tRaiseO (C : Addr) (E : XK) : TS := fun _ _ H => E (.ref C) none H
/-- try: body, except C as n (slot i): suite -/
abbrev tTryK (K : PySem.W.Frag) (C : Addr) (i : Nat) (tb : WX → TS) (ts : Addr → Value → Option Addr → TS) : TS := fun D σ H => tb (wAsK K (.ref C) i ts (fun _ _ _ _ => False) D) D σ H
theorem ps_raiseO {X : Cx} {E : XK} {C : Addr} {x m : Str} {j : Nat} {p p2 pos pos2 : Pos} {E₁ : Value → Shared → Prop} (c : ErrC X.K C) (g : X.mg x = some (.ref C)) (hc : X.calm = true) (hs : X.stack = X.env :: X.outer) (hf : X.env.frame = some X.env.locals) (hex : X.ex = [])
    (hx : X.xe = fun e s' => wpAny (model X.prog X.w) X.A (leaving X.env e) (fun _ s'' => L2.CX X.prog X.w X.outer X.H_0 X.s_0 E e s'') E₁ s') (hg : Gl X x) (hdb : (x == ("__debug__" : Str)) = false := by decide) :
    PS X (.Raise (some (.Call (.Name x p) [.Constant (.str m) j p2] [] pos)) none pos2) (tRaiseO C E) :=
  ps_raise hc (takes_of hs hf hex hx) (pmk_own PySem.F.excBase_ValueError c.q g c.k (raises_own c.s c.t) hg hdb)
end BX
/-! B: shifts; odd things of any kind; slices of a tuple of four -/
namespace B
open PySem L2
open PySem.W (Tup T3 T4 Datum DatumOrd)
open Evl (Ex)
abbrev oShl : R2 := rI CPow fun i j => .int (i * 2 ^ j.toNat)
abbrev oShr : R2 := rI (fun _ j => 0 ≤ j) fun i j => .int (i / 2 ^ j.toNat)
abbrev oAnd : R2 := rI0 fun i j => .int (Builtin.bitAnd i j)
/-- a thing of any kind -/
inductive Odd where
  | int (n : Int) | bl (b : Bool) | non | str (s : Str) | tup (ns : List Int) | lst (ns : List Int) | dct
def oRep (K : Fg) (H : Hp) (v : V) : Odd → Prop
  | .int n => rep K H v n
  | .bl b => rep K H v b
  | .non => rep K H v ()
  | .str s => rep K H v s
  | .tup n => rep K H v (Tup.mk n)
  | .lst n => rep K H v n
  | .dct => rep K H v (⟨[]⟩ : Dict Int Int)
theorem oRep_mono {K : Fg} {H H' : Hp} {v : V} (e : Ext H H') : ∀ {o : Odd}, oRep K H v o → oRep K H' v o
  | .int n, h => Py.mono (α := Int) e h
  | .bl b, h => Py.mono (α := Bool) e h
  | .non, h => Py.mono (α := Unit) e h
  | .str s, h => Py.mono (α := Str) e h
  | .tup n, h => Py.mono (α := Tup Int) e h
  | .lst n, h => Py.mono (α := List Int) e h
  | .dct, h => Py.mono (α := Dict Int Int) e h
instance : Py Odd := ⟨oRep, fun e h => oRep_mono e h⟩
def Odd.cls : Odd → String
  | .int _ => "int" | .bl _ => "bool" | .non => "NoneType" | .str _ => "str" | .tup _ => "tuple" | .lst _ => "list" | .dct => "dict"
theorem ty_dct {K : Fg} {κ α : Type} [PyKey κ] [Py α] {d : Dict κ α} (W1 : Wd) (v : V) (h : rep K W1.B v d) : TyX K W1.H v (.type "dict") := by
  obtain ⟨a, ks, rfl, h1, _⟩ := h
  rcases W1.sub.rd h1 with z | ⟨o, z⟩
  · exact .base (.dK z)
  · exact .fDict z
theorem ty_odd {K : Fg} (W1 : Wd) (v : V) : ∀ (o : Odd), rep K W1.B v o → TyX K W1.H v (.type o.cls)
  | .int n, h => ty_int W1 v h
  | .bl b, h => ty_bl W1 v h
  | .non, h => ty_non W1 v h
  | .str s, h => ty_str W1 v h
  | .tup n, h => ty_tup W1 v h
  | .lst n, h => ty_lst W1 v h
  | .dct, h => ty_dct W1 v h
def Odd.isI : Odd → Bool
  | .int _ => true | .bl _ => true | _ => false
def Odd.isB : Odd → Bool
  | .bl _ => true | _ => false
theorem odd_kitI : ∀ o : Odd, kitB o.cls "int" = some o.isI
  | .int _ => (by decide +kernel : kitB "int" "int" = some true)
  | .bl _ => (by decide +kernel : kitB "bool" "int" = some true)
  | .non => (by decide +kernel : kitB "NoneType" "int" = some false)
  | .str _ => (by decide +kernel : kitB "str" "int" = some false)
  | .tup _ => (by decide +kernel : kitB "tuple" "int" = some false)
  | .lst _ => (by decide +kernel : kitB "list" "int" = some false)
  | .dct => (by decide +kernel : kitB "dict" "int" = some false)
theorem odd_kitB : ∀ o : Odd, kitB o.cls "bool" = some o.isB
  | .int _ => (by decide +kernel : kitB "int" "bool" = some false)
  | .bl _ => (by decide +kernel : kitB "bool" "bool" = some true)
  | .non => (by decide +kernel : kitB "NoneType" "bool" = some false)
  | .str _ => (by decide +kernel : kitB "str" "bool" = some false)
  | .tup _ => (by decide +kernel : kitB "tuple" "bool" = some false)
  | .lst _ => (by decide +kernel : kitB "list" "bool" = some false)
  | .dct => (by decide +kernel : kitB "dict" "bool" = some false)
section
variable {α β γ δ : Type} [Py α] [Py β] [Py γ] [Py δ] {K : Fg} {W W' : Wd} {σ : SS} {ε : Ef} {te ta tb tc td : TE}
theorem ev_oI {n : Int} (h : EvR ε K te σ W n) : EvR ε K te σ W (Odd.int n) := h
theorem ev_oB {n : Bool} (h : EvR ε K te σ W n) : EvR ε K te σ W (Odd.bl n) := h
theorem ev_oN (h : EvR ε K te σ W ()) : EvR ε K te σ W Odd.non := h
theorem ev_oS {n : Str} (h : EvR ε K te σ W n) : EvR ε K te σ W (Odd.str n) := h
theorem ev_oT {n : List Int} (h : EvR ε K te σ W (Tup.mk n)) : EvR ε K te σ W (Odd.tup n) := h
theorem ev_oL {n : List Int} (h : EvR ε K te σ W n) : EvR ε K te σ W (Odd.lst n) := h
theorem ev_oD (h : EvD ε K te σ W (⟨[]⟩ : Dict Int Int)) : EvR ε K te σ W Odd.dct := h.rep
/-- [:2] and [2:] of a tuple of four -/
theorem ev_slQa {p : T4 α β γ δ} (h : EvR ε K te σ W p) : EvR ε K (tSl (rSlA K) te tNoPart (tPart (tC (.int 2)))) σ W (p.a, p.b) := fun W1 g1 Q k => h W1 g1 _ fun v W2 g2 ⟨a, x, y, z, w, e, s, r1, r2, r3, r4⟩ =>
  ⟨2, rfl, a, [x, y, z, w], e, SqT.of (W2.sub.et s), fun h0 => absurd h0.2 (by show ¬ (min 2 4 = 4); decide), fun _ p hp => k _ (W2.add p (.tup [x, y])) (g2.and (W2.grow_add hp)) ⟨p, x, y, rfl, upd_same, rep_g (W2.grow_add hp) r1, rep_g (W2.grow_add hp) r2⟩⟩
theorem ev_slQb {p : T4 α β γ δ} (h : EvR ε K te σ W p) : EvR ε K (tSl (rSlA K) te (tPart (tC (.int 2))) tNoPart) σ W (p.c, p.d) := fun W1 g1 Q k => h W1 g1 _ fun v W2 g2 ⟨a, x, y, z, w, e, s, r1, r2, r3, r4⟩ =>
  ⟨2, rfl, a, [x, y, z, w], e, SqT.of (W2.sub.et s), fun h0 => absurd h0.1 (by show ¬ (min 2 4 = 0); decide), fun _ p hp => k _ (W2.add p (.tup [z, w])) (g2.and (W2.grow_add hp)) ⟨p, z, w, rfl, upd_same, rep_g (W2.grow_add hp) r3, rep_g (W2.grow_add hp) r4⟩⟩
theorem rc_min {xs : List Int} {m : Int} (h1 : m ∈ xs) (h2 : ∀ y ∈ xs, m ≤ y) : RC1 K (rMin K) xs m := fun v W1 ⟨a, vs, e, s, r⟩ Q k => ⟨a, xs, by rw [e], by rw [← reps_int r]; exact SqL.of (W1.sub.el s), List.length_pos_of_mem h1, fun m' h3 h4 => by
  have : m' = m := Int.le_antisymm (h4 m h1) (h2 m' h3)
  rw [this]
  exact k _ W1 (.refl _ _) rfl⟩
end
end B
/-! BY: a set made of a list, by what its filling promises -/
namespace BY
open PySem PySem.Spec PyProof.Rows L2
section
variable {P : Program} {w : World} {A : Around} {E : Value → Shared → Prop} {s : Shared}
abbrev set0 (w : World) : Obj := { cls := .type "set", dict := none, data := .set #[] 0 (.fresh 0 0 (!w.params.followText "set-order")) }
abbrev it0 (l : Addr) : Obj := { cls := .type "list_iterator", data := .fields #[.ref l, .int 0 0] }
set_option maxHeartbeats 8000000 in
theorem set_of_list {l : Addr} {items : Array Value} {Q : Value → Shared → Prop} {Pz : Heap → Nat → Prop} (hl : s.heap.IsList l items)
    (hloop : ∀ R : Result → Shared → Prop, (∀ h' tk, Pz h' tk → R (.ok (.ret .none)) { s with heap := h', toks := tk }) →
      codeAny (model P w) A.in1.in1 (.builtin "set.update.loop" ⟨[.ref s.heap.objs.size, .ref (s.heap.push (set0 w)).objs.size], []⟩) R { s with heap := (s.heap.push (set0 w)).push (it0 l) })
    (h : ∀ h' tk, Pz h' tk → Q (.ref s.heap.objs.size) { s with heap := h', toks := tk }) : wpAny (model P w) A (call (.type "set") [.ref l]) Q E s := by
  obtain ⟨c, tl, hmro⟩ := F.called_set.mro
  have i1 := F.called_set.made
  have i2 := F.called_set.sub
  have i3 := F.called_set.notType
  have i4 := F.called_set.canCreate
  have i5 := F.typeCall_set_1 (.ref l)
  refine wpAny_call (codeAny_of_tree ?_)
  show wpAny _ _ (callAny (.type "set") _) _ _ _
  refine wpAny_pure ⟨Code.quiet_builtin _ (by decide +kernel), codeAny_builtin F.entry_type_call ?_⟩
  rw [Around.under_plain (weight_type_call_type "set" [.ref l] []) rfl]
  repeat (any_goals (first | assumption | wp_step))
  refine codeAny_mono (code_set_led1 (.ref l) (E := E) (Q₁ := fun x t => x = .ref s.heap.objs.size ∧ t = { s with heap := s.heap.push (set0 w) }) ⟨rfl, rfl⟩) fun r t hr => ?_
  match r, hr with
  | .error e, hr => exact hr
  | .ok .next, hr => exact hr.elim
  | .ok .brk, hr => exact hr.elim
  | .ok .cont, hr => exact hr.elim
  | .ok (.ret x), hr =>
    obtain ⟨rfl, rfl⟩ := hr
    have at0 : (s.heap.push (set0 w)).get? s.heap.objs.size = some (set0 w) := Heap.get?_push_size _ rfl
    have ty0 : Shared.TypeIs { s with heap := s.heap.push (set0 w) } (.ref s.heap.objs.size) "set" := ⟨_, at0, rfl⟩
    have j1 := F.called_set.init.lookup
    have j2 := F.called_set.init.bind (.ref s.heap.objs.size)
    repeat (any_goals (first | assumption | wp_step))
    refine codeAny_mono (codeAny_call_builtin (R := wants (fun r t => r = .none ∧ ∃ h' tk, t = { s with heap := h', toks := tk } ∧ Pz h' tk) E) F.called_set.init.plain F.entry_set_init (check_set_init_1 ty0 ?_)) fun r t hr => ?_
    · obtain ⟨⟨oc, od, oda, osl⟩, ho, hc, ne, hd⟩ := hl
      simp only at hc hd
      subst hc
      subst hd
      have ho' : (s.heap.push (set0 w)).get? l = some { cls := .type "list", dict := od, data := .seq items ne, slots := osl } := Heap.get?_push_of_some _ ho
      have k1 := F.sub_list_set
      have k2 := F.sub_list_frozenset
      have k3 : (Value.type "list" == Value.type "dict") = false := by decide
      have il : (s.heap.push (set0 w)).IsList l items := ⟨_, ho', rfl, ne, rfl⟩
      unfold Builtin.«set.__init__» noKeywords Builtin.Frozenset.updateFrom
      generalize hPI : pyIter = PI
      wp_walk
      subst hPI
      refine wpAny_pyIter_list il (wpAny_bind (wpAny_runValue (hloop _ fun h' tk q => ?_)))
      show wpAny _ _ _ _ _ _
      refine wpAny_pure ?_
      show wpAny _ _ (ret Value.none) _ _ _
      exact wpAny_pure ⟨rfl, h', tk, rfl, q⟩
    · match r, hr with
      | .error e, hr => exact hr
      | .ok .next, hr => exact hr.elim
      | .ok .brk, hr => exact hr.elim
      | .ok .cont, hr => exact hr.elim
      | .ok (.ret x), hr =>
        obtain ⟨rfl, h', tk, rfl, q⟩ := hr
        repeat (any_goals (first | assumption | wp_step))
        exact h _ _ q
/-- set(xs), a list of ints -/
theorem set_listI {l : Addr} {items : Array Value} {ns : List Int} {Q : Value → Shared → Prop} (hh : A.handled = none) (hl : s.heap.IsList l items) (hit : IntsAre items.toList ns) (hb : ns.length + 1 < scanBound)
    (h : ∀ (h' : Heap) (tk c : Nat), SetR w h' s.heap.objs.size (fun j => decide (j ∈ ns)) c → c ≤ ns.length → (∀ b o, s.heap.get? b = some o → h'.get? b = some o) → Q (.ref s.heap.objs.size) { s with heap := h', toks := tk }) :
    wpAny (model P w) A (call (.type "set") [.ref l]) Q E s := by
  have hn : items.size = ns.length := by
    have := IntsAre.length hit
    rwa [Array.length_toList] at this
  have lt : l < s.heap.objs.size := by
    obtain ⟨o, ho, _⟩ := hl
    exact Heap.lt_size ho
  have sz : (s.heap.push (set0 w)).objs.size = s.heap.objs.size + 1 := Heap.size_push ..
  have at0 : (s.heap.push (set0 w)).get? s.heap.objs.size = some (set0 w) := Heap.get?_push_size _ rfl
  refine set_of_list (Pz := fun h' tk => ∃ c, SetR w h' s.heap.objs.size (fun j => decide (j ∈ ns)) c ∧ c ≤ ns.length ∧ ∀ b o, s.heap.get? b = some o → h'.get? b = some o) hl (fun R k => ?_) fun h' tk ⟨c, q1, q2, q3⟩ => h h' tk c q1 q2 q3
  have il : (s.heap.push (set0 w)).IsList l items := hl.push _
  refine set_update_ints ((Walks.list (by simp [hh]) (s.heap.push (set0 w)).objs.size l (by rw [sz]; exact Nat.ne_of_lt (Nat.lt_succ_of_lt lt)) items).toS) s.heap.objs.size (by rw [sz]; simp only [List.mem_cons, List.not_mem_nil, or_false, not_or]; exact ⟨Nat.ne_of_lt (Nat.lt_succ_self _), Nat.ne_of_gt lt⟩) ns hn hb (fun i v hv => ?_) items.size 0 _ (by omega) (Nat.zero_le _)
    ⟨⟨_, Heap.get?_push_size _ rfl, rfl, rfl⟩, il.push _⟩ ⟨0, Nat.le_refl _, setR_new_at (Heap.get?_push_of_some _ at0)⟩ fun s' c m hc hS => ?_
  · have hi : i < ns.length := by rw [← hn]; exact (Array.getElem?_eq_some_iff.mp hv).1
    obtain ⟨t, e⟩ := PyProof.Rows.IntsAre.int_at hit i v (by rw [Array.getElem?_toList]; exact hv)
    refine ⟨ns[i], t, List.getElem?_eq_getElem hi, ?_⟩
    rw [e, List.getD_eq_getElem?_getD, List.getElem?_eq_getElem hi]
    rfl
  · obtain ⟨h', g', d', tk', os'⟩ := s'
    obtain rfl : g' = s.gens := m.gens
    obtain rfl : d' = s.drawn := m.drawn
    obtain rfl : os' = s.os := m.os
    refine k h' tk' ⟨c, hS, by rw [← hn]; exact hc, fun b o e => ?_⟩
    have hb0 := Heap.lt_size e
    exact m.heap b o (by rw [sz]; simp only [List.mem_cons, List.not_mem_nil, or_false, not_or]; exact ⟨Nat.ne_of_lt hb0, Nat.ne_of_lt (Nat.lt_succ_of_lt hb0)⟩) (Heap.get?_push_of_some _ (Heap.get?_push_of_some _ e))
end
section
variable {X : Cx} {tg : Expr}
/-- sorted(set(xs)), a list of ints -/
def tSortSetL (K : PySem.W.Frag) (ta : TE) : TE := fun σ H Q => ta σ H fun x H1 => ∃ (l : Addr) (ns : List Int), x = .ref l ∧ SqL K H1 l (ns.map V.int) ∧ ns.length ≤ 4000 ∧
  ∀ (ns' : List Int) (p : Addr), ns'.Pairwise (· < ·) → (∀ k, k ∈ ns' ↔ k ∈ ns) → H1 p = none → Q (.ref p) (upd H1 p (.lst (ns'.map V.int)))
theorem pe_sortSetL {a : Expr} {ta : TE} {p p2 q pos : Pos} (hg : Gl X "sorted") (hm : X.mg "sorted" = none) (hg2 : Gl X "set") (hm2 : X.mg "set" = none) (ha : PE X a ta) (hc : X.calm = true := by rfl)
    (na : starEach [a] X.env = (false, eval a X.env) :: starEach [] X.env := by rfl) : PE X (.Call (.Name "sorted" p) [.Call (.Name "set" p2) [a] [] q] [] pos) (tSortSetL X.K ta) := by
  refine ⟨fun pins s σ H Q I h => ?_⟩
  refine Call_ (ld_blt I hg hm (show bootBuiltins "sorted" = some (.builtin "sorted") by decide +kernel) ?_)
  refine PyProof.Rows.callWith_builtin1 (PyProof.Rows.args_cons ?_ rfl) rfl rfl
  refine Call_ (ld_blt I hg2 hm2 boot_set ?_)
  refine PyProof.Rows.callWith_type1 (PyProof.Rows.args_cons (thn (ha.run pins s σ H _ I h) fun v s1 ⟨x, H1, I1, r1, q1⟩ => PyProof.Rows.args_nil ?_) na) na rfl
  obtain ⟨l, ns, rfl, hq, hl, q1⟩ := q1
  cases r1
  obtain ⟨its, r, pl, hz⟩ := I1.list hq
  refine set_listI (I1.ok.hd hc) (items := its.toArray) pl.isList (by simpa using r.ints) (by unfold scanBound; omega) fun h' tk c hS hc' hk => ?_
  refine PyProof.Rows.args_nil ?_
  exact set_sorted (I1.kept hk) hS (by omega) hc q1
/-- enumerate of a row that is a list or a tuple -/
def iEnumSeq (K : PySem.W.Frag) (ta : TA) : TI := fun σ H R => (iEnum K ta σ H R) ∨ (B.iEnumT K ta σ H R)
theorem pi_enumSeq {e : Expr} {ta : TA} {p pos tpos : Pos} {elts : List Expr} {kk : Nat} (hg : Gl X "enumerate") (hm : X.mg "enumerate" = none) (ha : PA X [e] ta) (hs : starEach [e] X.env = [(false, eval e X.env)] := by rfl) :
    PI X (.Tuple elts kk tpos) (.Call (.Name "enumerate" p) [e] [] pos) (iEnumSeq X.K ta) := by
  refine ⟨fun pins s σ H R I h => ?_⟩
  rcases h with h | h
  · exact (pi_enum hg hm ha hs).run pins s σ H R I h
  · exact (B.pi_enumT hg hm ha hs).run pins s σ H R I h
end
end BY
/-! B: values of which something is known, not all (what draws make) -/
namespace B
open PySem L2
open PySem.W (Tup T3 T4 Datum DatumOrd)
open Evl (Ex)
/-- the expression gives some x of which P tells -/
def EvX {α : Type} [Py α] (ε : Ef) (K : Fg) (te : TE) (σ : SS) (W : Wd) (P : α → Prop) : Prop := EvP ε te σ W (fun v W' => ∃ x : α, P x ∧ rep K W'.B v x)
def EvAsX {α : Type} [Py α] (ε : Ef) (K : Fg) (ta : TA) (σ : SS) (W : Wd) (n : Nat) (P : α → Prop) : Prop :=
  ∀ W1, Stp ε W W1 → ∀ Q : List V → Hp → Prop, (∀ vs W2 (xs : List α), Stp ε W1 W2 → Reps K W2.B vs xs → xs.length = n → (∀ x ∈ xs, P x) → Q vs W2.H) → ta σ W1.H Q
section
variable {α β γ : Type} [Py α] [Py β] [Py γ] {K : Fg} {σ : SS} {W : Wd} {ε : Ef} {te ta tb : TE} {tr : TA} {tt : TT} {P P' : α → Prop} {R : β → Prop} {S : γ → Prop}
theorem ex_of {x : α} (h : EvR ε K te σ W x) (p : P x) : EvX ε K te σ W P := fun W1 g1 Q k => h W1 g1 _ fun v W2 g2 r => k v W2 g2 ⟨x, p, r⟩
theorem EvX.imp (h : EvX ε K te σ W P) (i : ∀ x, P x → P' x) : EvX ε K te σ W P' := fun W1 g1 Q k => h W1 g1 _ fun v W2 g2 ⟨x, p, r⟩ => k v W2 g2 ⟨x, i x p, r⟩
theorem ex_op {r : R2} (ha : EvX ε K ta σ W P) (hb : EvX ε K tb σ W R) (ho : ∀ x y, P x → R y → ∃ z, S z ∧ RO K r x y z) : EvX ε K (tOp r ta tb) σ W S := fun W1 g1 Q k =>
  ha W1 g1 _ fun v W2 g2 ⟨x, px, rx⟩ => hb W2 (g1.trans g2) _ fun u W3 g3 ⟨y, py, ry⟩ => by
    obtain ⟨z, sz, o⟩ := ho x y px py
    exact o v u W3 (rep_s g3 rx) ry Q fun w W4 g4 rw => k w W4 (g2.trans (g3.and g4)) ⟨z, sz, rw⟩
theorem ex_cb1 {r : List V → Hp → VK → Prop} (ha : EvX ε K ta σ W P) (ho : ∀ x, P x → ∃ y, R y ∧ RC1 K r x y) : EvX ε K (tCB r (tCons ta tNil)) σ W R := fun W1 g1 Q k =>
  ha W1 g1 _ fun v W2 g2 ⟨x, px, rx⟩ => by
    obtain ⟨y, sy, o⟩ := ho x px
    exact o v W2 rx Q fun w W4 g4 rw => k w W4 (g2.and g4) ⟨y, sy, rw⟩
theorem ex_if {b : Bool} (h : EvT ε tt σ W b) (h1 : b = true → EvX ε K ta σ W P) (h2 : b = false → EvX ε K tb σ W P) : EvX ε K (tIf tt ta tb) σ W P := fun W1 g1 Q k => h W1 g1 _ fun W2 g2 => by
  cases b with
  | true => exact h1 rfl W2 (g1.trans g2) _ fun v W3 g3 r => k v W3 (g2.trans g3) r
  | false => exact h2 rfl W2 (g1.trans g2) _ fun v W3 g3 r => k v W3 (g2.trans g3) r
theorem exa_nil : EvAsX ε K tNil σ W 0 P := fun W1 g1 Q k => k [] W1 [] g1.rf .nil rfl (fun x h => by cases h)
theorem exa_cons {n : Nat} (h : EvX ε K te σ W P) (hr : EvAsX ε K tr σ W n P) : EvAsX ε K (tCons te tr) σ W (n + 1) P := fun W1 g1 Q k =>
  h W1 g1 _ fun v W2 g2 ⟨x, px, rx⟩ => hr W2 (g1.trans g2) _ fun vs W3 xs g3 rs hl hp => k (v :: vs) W3 (x :: xs) (g2.trans g3) (.cons (rep_s g3 rx) rs) (by rw [List.length_cons, hl]) (fun y hy => by
    rcases List.mem_cons.mp hy with e | e
    · rw [e]; exact px
    · exact hp y e)
theorem ex_lst {n : Nat} {ta : TA} (h : EvAsX ε K ta σ W n P) (hl : n ≤ 100000) : EvX ε K (tLst ta) σ W (fun xs : List α => xs.length = n ∧ ∀ x ∈ xs, P x) := fun W1 g1 Q k =>
  h W1 g1 _ fun vs W2 xs g2 rs hn hp => ⟨Evl.sz_of (by rw [Reps.len rs, hn]; exact hl), fun p hq => k _ (W2.add p (.lst vs)) (g2.and (W2.grow_add hq)) ⟨xs, ⟨hn, hp⟩, p, vs, rfl, upd_same, Reps.mono (exExt (W2.grow_add hq).b) rs⟩⟩
/-- an item at a drawn place -/
theorem ep_ixD {xs : List α} (h : EvR ε K ta σ W xs) (hi : EvP ε tb σ W (fun v _ => ∃ r, v = .int r ∧ 0 ≤ r ∧ r < (xs.length : Int))) : EvX ε K (tOp (rIxL K) ta tb) σ W (fun y => y ∈ xs) := fun W1 g1 Q k =>
  h W1 g1 _ fun a W2 g2 ra => hi W2 (g1.trans g2) _ fun u W3 g3 ⟨r, e, h0, h1⟩ => by
    obtain ⟨j, hj⟩ : ∃ j : Nat, r = (j : Int) := ⟨r.toNat, by omega⟩
    have hjl : j < xs.length := by omega
    exact ro_ixL (K := K) (x := xs[j]) (i := r) (by rw [hj]; exact atI_nat (List.getElem?_eq_getElem hjl)) a u W3 (rep_s g3 ra) e Q fun w W4 g4 rw => k w W4 (g2.trans (g3.and g4)) ⟨xs[j], List.getElem_mem _, rw⟩
theorem EvP.imp {P R : V → Wd → Prop} (h : EvP ε te σ W P) (i : ∀ v W, P v W → R v W) : EvP ε te σ W R := fun W1 g1 Q k => h W1 g1 _ fun v W2 g2 p => k v W2 g2 (i _ _ p)
theorem ex_sortSetL {n : Nat} (h : EvX ε K te σ W (fun xs : List Int => xs.length ≤ n)) (hn : n ≤ 4000) : EvX ε K (BY.tSortSetL K te) σ W (fun xs : List Int => xs.length ≤ n) := fun W1 g1 Q k => h W1 g1 _ fun v W2 g2 ⟨xs, hx, a, vs, e, s, r⟩ => by
  have e2 := reps_int r
  subst e2
  refine ⟨a, xs, e, SqL.of (W2.sub.el s), by omega, fun ns p hs hm hq => k _ (W2.add p _) (g2.and (W2.grow_add hq)) ⟨ns, ?_, p, _, rfl, upd_same, int_reps _⟩⟩
  have := nodup_le (hs.imp fun h e => by omega) (m := xs) fun k hk => (hm k).mp hk
  omega
end
end B
/-! BY: sets of keys of any kind, filled; len(set(list of texts)) -/
namespace BY
open PySem PySem.Spec PyProof.Rows L2
section
variable {P : Program} {w : World} {A : Around} {E : Value → Shared → Prop} {s : Shared} {κ : Type} [DecidableEq κ]
def inK (ks : List κ) (j : κ) : Bool := decide (j ∈ ks)
theorem fill_keys {knd : PySem.KeyKind P w κ} {I : Addr} {fp wr : List Addr} {G : Array GenState → Array GenState → Prop} {n : Nat} {Pv : Nat → Value → Prop} {St : Nat → Shared → Prop} {R : Result → Shared → Prop}
    (W : WalksS P w A.in1 I fp wr G n Pv St) {S : Addr} (hSf : S ∉ fp) {ks : List κ} (hn : n = ks.length) (hb : ks.length + 1 < scanBound) (hval : ∀ i v, Pv i v → ∃ k, ks[i]? = some k ∧ knd.is k v = true ∧ v.scannable = true) (hnd : ks.Nodup) :
    ∀ (m i : Nat) (s : Shared), n - i = m → i ≤ n → St i s → s.heap.SetOf knd S (inK (ks.take i)) i →
      (∀ s', Moved (S :: wr) G s s' → s'.heap.SetOf knd S (inK ks) n → R (.ok (.ret .none)) s') → codeAny (model P w) A (.builtin "set.update.loop" ⟨[.ref S, .ref I], []⟩) R s
  | 0, i, s, hm, hi, st, h, k => by
    obtain rfl : i = n := by omega
    have e : ks.take i = ks := List.take_of_length_le (by omega)
    rw [e] at h
    refine codeAny_builtin F.entry_set_update_loop ?_
    rw [Around.under_plainId F.plain_set_update_loop _]
    show wpAny _ A.in1 (pyNext (.ref I) >>= _) _ _ s
    refine wpAny_bind (W.done s _ _ st fun s' mv => ?_)
    have ne : S ∉ wr := fun z => hSf (W.sub _ z)
    obtain ⟨o, es, ep, t, ho, r⟩ := h
    exact wpAny_pure (k s' (mv.mono fun b hb => List.mem_cons_of_mem _ hb) ⟨o, es, ep, t, mv.heap S o ne ho, r⟩)
  | m + 1, i, s, hm, hi, st, h, k => by
    have hlt : i < n := by omega
    have ne : S ∉ wr := fun z => hSf (W.sub _ z)
    refine codeAny_builtin F.entry_set_update_loop ?_
    rw [Around.under_plainId F.plain_set_update_loop _]
    show wpAny _ A.in1 (pyNext (.ref I) >>= _) _ _ s
    refine wpAny_bind (W.item i s _ _ hlt st fun v s' pv st' mv => ?_)
    obtain ⟨x, hx, is, sc⟩ := hval i v pv
    have h' : s'.heap.SetOf knd S (inK (ks.take i)) i := by
      obtain ⟨o, es, ep, t, ho, r⟩ := h
      exact ⟨o, es, ep, t, mv.heap S o ne ho, r⟩
    have hni : x ∉ ks.take i := fun z => by
      obtain ⟨j, hj, e⟩ := List.mem_take_iff_getElem.mp z
      obtain ⟨hi', e2⟩ := List.getElem?_eq_some_iff.mp hx
      exact List.pairwise_iff_getElem.mp hnd j i (by omega) hi' (by omega) (e.trans e2.symm)
    show wpAny _ A.in1 (holding [v] (setAdd S v) >>= _) _ _ s'
    refine wpAny_bind (wpAny_holding ?_)
    unfold setAdd
    refine wpAny_holding (wpAny_bind (knd.pyHash is ?_))
    refine wpAny_setAddHashed_of (s := { s' with toks := s'.toks + 1 }) is sc h' (by omega) fun h2 sb new => ?_
    have new2 : h2.SetOf knd S (inK (ks.take (i + 1))) (i + 1) := by
      rw [if_neg (by unfold inK; rw [decide_eq_true_eq]; exact hni)] at new
      have e : (fun j => inK (ks.take i) j || decide (j = x)) = inK (ks.take (i + 1)) := by
        funext j
        unfold inK
        rw [List.take_add_one, hx]
        simp [List.mem_append]
      rwa [e] at new
    refine wpAny_pure ⟨plainId_quiet F.plain_set_update_loop _, fill_keys W hSf hn hb hval hnd m (i + 1) _ (by omega) hlt (W.frame _ s' _ _ st' (Nat.le_succ _) fun b hb o e => ?_) new2 fun s2 mv2 q => ?_⟩
    · rw [sb.2 b (fun z : b = S => hSf (by rw [← z]; exact hb))]
      exact e
    · refine k s2 (Moved.trans W.gtrans ((mv.mono fun b hb => List.mem_cons_of_mem _ hb).then_heap (Nat.le_succ _) fun b o hb e => ?_) mv2) q
      rw [sb.2 b (fun z => hb (by rw [z]; exact List.mem_cons_self))]
      exact e
/-- texts as keys -/
def keysS (xs : List Str) : List Key := xs.map fun x => Sum.inr x
/-- set(xs), a list of unlike texts -/
theorem set_listS {l : Addr} {its : List Value} {xs : List Str} {Q : Value → Shared → Prop} (hh : A.handled = none) (hl : s.heap.IsList l its.toArray) (r : Vals (xs.map V.str) its) (hb : xs.length + 1 < scanBound) (hnd : xs.Nodup)
    (h : ∀ (h' : Heap) (tk : Nat), h'.SetOf (mixKind P w) s.heap.objs.size (inK (keysS xs)) xs.length → (∀ b o, s.heap.get? b = some o → h'.get? b = some o) → Q (.ref s.heap.objs.size) { s with heap := h', toks := tk }) :
    wpAny (model P w) A (call (.type "set") [.ref l]) Q E s := by
  have hn : its.toArray.size = (keysS xs).length := by
    have := r.length
    rw [List.length_map] at this
    unfold keysS
    rw [List.size_toArray, List.length_map]
    exact this.symm
  have hn' : its.toArray.size = xs.length := by rw [hn]; unfold keysS; rw [List.length_map]
  have lt : l < s.heap.objs.size := by
    obtain ⟨o, ho, _⟩ := hl
    exact Heap.lt_size ho
  have sz : (s.heap.push (set0 w)).objs.size = s.heap.objs.size + 1 := Heap.size_push ..
  have at0 : (s.heap.push (set0 w)).get? s.heap.objs.size = some (set0 w) := Heap.get?_push_size _ rfl
  refine set_of_list (Pz := fun h' tk => h'.SetOf (mixKind P w) s.heap.objs.size (inK (keysS xs)) xs.length ∧ ∀ b o, s.heap.get? b = some o → h'.get? b = some o) hl (fun R k => ?_) fun h' tk ⟨q1, q2⟩ => h h' tk q1 q2
  have il : (s.heap.push (set0 w)).IsList l its.toArray := hl.push _
  refine fill_keys (knd := mixKind P w) (ks := keysS xs) ((Walks.list (by simp [hh]) (s.heap.push (set0 w)).objs.size l (by rw [sz]; exact Nat.ne_of_lt (Nat.lt_succ_of_lt lt)) its.toArray).toS) (by rw [sz]; simp only [List.mem_cons, List.not_mem_nil, or_false, not_or]; exact ⟨Nat.ne_of_lt (Nat.lt_succ_self _), Nat.ne_of_gt lt⟩) hn (by unfold keysS; rw [List.length_map]; exact hb) (fun i v hv => ?_)
    (by unfold keysS; exact List.pairwise_map.mpr (hnd.imp fun ne e => ne (Sum.inr.inj e))) its.toArray.size 0 _ (by omega) (Nat.zero_le _)
    ⟨⟨_, Heap.get?_push_size _ rfl, rfl, rfl⟩, il.push _⟩ ⟨_, #[], 0, _, Heap.get?_push_of_some _ at0, ⟨rfl, rfl, rfl⟩, rfl, (fun e he => by simp at he), (fun k => by simp [inK]), (by decide), (by rfl), rfl⟩ fun s' m hS => ?_
  · have hv' : its[i]? = some v := by simpa using hv
    have hi : i < xs.length := by
      have := (List.getElem?_eq_some_iff.mp hv').1
      rw [← hn', List.size_toArray]
      exact this
    obtain ⟨u, hu, ru⟩ := r.get (i := i) (x := V.str xs[i]) (by rw [List.getElem?_map, List.getElem?_eq_getElem hi]; rfl)
    rw [hv'] at hu
    cases hu
    have rk : RelV (kV (Sum.inr xs[i])) v := ru
    exact ⟨Sum.inr xs[i], by unfold keysS; rw [List.getElem?_map, List.getElem?_eq_getElem hi]; rfl, kV_is rk, key_scan rk⟩
  · obtain ⟨h', g', d', tk', os'⟩ := s'
    obtain rfl : g' = s.gens := m.gens
    obtain rfl : d' = s.drawn := m.drawn
    obtain rfl : os' = s.os := m.os
    refine k h' tk' ⟨by rw [← hn']; exact hS, fun b o e => ?_⟩
    have hb0 := Heap.lt_size e
    exact m.heap b o (by rw [sz]; simp only [List.mem_cons, List.not_mem_nil, or_false, not_or]; exact ⟨Nat.ne_of_lt hb0, Nat.ne_of_lt (Nat.lt_succ_of_lt hb0)⟩) (Heap.get?_push_of_some _ (Heap.get?_push_of_some _ e))
end
section
variable {X : Cx}
/-- len(set(xs)), a list of unlike texts -/
def tLenSetS (K : PySem.W.Frag) (ta : TE) : TE := fun σ H Q => ta σ H fun x H1 => ∃ (l : Addr) (xs : List Str), x = .ref l ∧ SqL K H1 l (xs.map V.str) ∧ xs.Nodup ∧ xs.length ≤ 4000 ∧ Q (.int (xs.length : Nat)) H1
theorem pe_lenSetS {a : Expr} {ta : TE} {p p2 q pos : Pos} (hg : Gl X "len") (hm : X.mg "len" = none) (hg2 : Gl X "set") (hm2 : X.mg "set" = none) (ha : PE X a ta) (hc : X.calm = true := by rfl)
    (na : starEach [a] X.env = (false, eval a X.env) :: starEach [] X.env := by rfl) : PE X (.Call (.Name "len" p) [.Call (.Name "set" p2) [a] [] q] [] pos) (tLenSetS X.K ta) := by
  refine ⟨fun pins s σ H Q I h => ?_⟩
  refine Call_ (ld_blt I hg hm boot_len ?_)
  refine PyProof.Rows.callWith_builtin1 (PyProof.Rows.args_cons ?_ rfl) rfl rfl
  refine Call_ (ld_blt I hg2 hm2 boot_set ?_)
  refine PyProof.Rows.callWith_type1 (PyProof.Rows.args_cons (thn (ha.run pins s σ H _ I h) fun v s1 ⟨x, H1, I1, r1, q1⟩ => PyProof.Rows.args_nil ?_) na) na rfl
  obtain ⟨l, xs, rfl, hq, hnd, hl, q1⟩ := q1
  cases r1
  obtain ⟨its, r, pl, hz⟩ := I1.list hq
  refine set_listS (I1.ok.hd hc) pl.isList r (by unfold scanBound; omega) hnd fun h' tk hS hk => ?_
  refine PyProof.Rows.args_nil ?_
  obtain ⟨o, es, ep, t, ho, hex, hd, _, _, _, hf, hn⟩ := hS
  have I2 : Inv X pins σ H1 { s1 with heap := h', toks := tk } := I1.kept hk
  exact call_len_set ho hex hd hf (by rw [hn] <;> omega) ⟨.int (xs.length : Nat), H1, I2.tok _, ⟨_, by rw [hn]⟩, q1⟩
end
end BY
/-! B: != of own instances by their own == -/
namespace B
open PySem L2 PySem.Spec PyProof.Rows
section
variable {prog : Program} {w : World} {A : Around} {E : Value → Shared → Prop} {s : Shared} {K : Fg} {x y C L f : Addr} {h₀ : Heap} {m : Str → Option Value} {ox : Obj} {od : Option Obj}
theorem ne_body {Q : PySem.Fin → Shared → Prop} (X : K.In s.heap) (I : PySem.W.InstAt s.heap x ox C od) (hs : PySem.W.findIn K (.ref C) "__eq__" = some (some (.ref f))) (hf : PySem.W.isFn K (.ref f) = true) (hu : A.units < cLine)
    (h : wpAny (model prog w) A (call (.ref f) [.ref x, .ref y]) (fun v s' => ∃ b, v = .bool b ∧ Q (.done (.ret (.bool (!b)))) s') E s) : wpAny (model prog w) A (Builtin.«object.__ne__» ⟨[.ref x, .ref y], []⟩) Q E s := by
  unfold Builtin.«object.__ne__»
  repeat (first
    | with_reducible refine wpAny_cRoomFor hu ?_
    | (refine wpAny_bind (m := callSpecialIfBound? (.ref x) (Str.ofString "__eq__") [.ref y]) (PySem.W.ifBound_K X I hs hf (wpAny_mono h (fun v s' hv => ?_) fun _ _ e => e)))
    | wp_step)
  obtain ⟨b, rfl, q⟩ := hv
  repeat (first | exact q | exact wpAny_pure q | exact wpAny_truthy_bool q | (refine wpAny_bind (m := truthy (.bool _)) (wpAny_truthy_bool ?_)) | wp_step)
theorem ne_bound {M : Model} {args : List Value} {Q : Option Value → Shared → Prop} (X : K.In s.heap) (I : PySem.W.InstAt s.heap x ox C od) (hs : PySem.W.findIn K (.ref C) "__ne__" = some (some (.builtin "object.__ne__")))
    (h : wpAny M A (call (.builtin "object.__ne__") (.ref x :: args)) (fun v => Q (some v)) E s) : wpAny M A (callSpecialIfBound? (.ref x) "__ne__" args) Q E s := by
  simp only [callSpecialIfBound?, bindSpecialIfBound?]
  refine wpAny_holding (wpAny_bind (wpAny_bind (wpAny_bind (I.type.here ((PySem.W.looks_findIn X hs).here ?_)))))
  refine wpAny_bind (wpAny_askSetting (wpAny_ite ?_))
  have fin : wpAny M A (call (.builtin "object.__ne__") ([.ref x] ++ args) >>= fun v => pure (some v)) Q E s := wpAny_bind (wpAny_mono h (fun v s' h' => wpAny_pure h') fun _ _ h' => h')
  simp only [PySem.F.cmp_object.ne.bind]
  split
  · exact wpAny_bind (wpAny_pure (wpAny_pure fin))
  · exact wpAny_tryCatch (wpAny_bind (wpAny_pure (wpAny_pure fin)))
end
section
variable {X : Cx} {CX : CXT} {k : Nat} {f C : Addr} {fd : FuncData} {ps : List Str} {sp : Sp} {E : XK}
/-- x != y, two instances of the class at C, whose own __eq__ keeps the promise sp -/
def rInsNe (C : Addr) (sp : Sp) (E : XK) : R2 := fun x y H Q => ∃ a b dx dy fs gs, x = .ref a ∧ y = .ref b ∧ H a = some (.ins C dx fs) ∧ H b = some (.ins C dy gs) ∧ sp [x, y] H (fun v H' => ∃ r, v = .bl r ∧ Q (.bl (!r)) H') E
theorem op_insNe (F : FnOk X.prog X.w X.K X.mg X.base CX k f fd ps sp) (hr : Room (k + 1) X.A) (hm : Meth X.K C "__eq__" f) (hn : PySem.W.findIn X.K (.ref C) "__ne__" = some (some (.builtin "object.__ne__")))
    (ho : PySem.W.mroIn X.K C (.type "object") = some true) (hb : Binds X.K fd ps []) (hx : Passes CX X E) : OpR X (compareOp .NotEq) (rInsNe C sp E) := by
  intro pins s σ H x y v u Q I rx ry h
  obtain ⟨a, b, dx, dy, fs, gs, rfl, rfl, ha, hb', q⟩ := h
  cases (show v = Value.ref a from rx)
  cases (show u = Value.ref b from ry)
  obtain ⟨mA, J, _⟩ := ins_get I.hok ha
  obtain ⟨mB, J', _⟩ := ins_get I.hok hb'
  obtain ⟨od, J, _⟩ := J.look
  obtain ⟨od', J', _⟩ := J'.look
  obtain ⟨m, hF⟩ := I.fr
  have XK := I.kIn
  show wpAny (model X.prog X.w) X.A (richCompare .NotEq (.ref a) (.ref b)) (EP X pins σ Q) X.xe s
  have own : wpAny (model X.prog X.w) X.A.in1 (call (.ref f) [.ref a, .ref b]) (fun v s' => ∃ r, v = .bool r ∧ EP X pins σ Q (.bool (!r)) s') X.xe s := by
    have hl := F.len _ _ _ _ q
    have r2 : Vals [V.ref a, V.ref b] [Value.ref a, Value.ref b] := .cons rfl (.cons rfl .nil)
    refine wpAny_call (codeAny_mono (F.run X.A.in1 X.stack s H ⟨[.ref a, .ref b], []⟩ [.ref a, .ref b] [.ref a, .ref b] _ E hr.in1 I.env0.in1 (by
      have := hb s [.ref a, .ref b] I.kIn (by simpa using hl)
      simpa using this) r2 q) fun r s' hq => ?_)
    cases r with
    | error e => exact hx pins σ H s e s' I hq
    | ok fl =>
      cases fl with
      | ret w =>
        obtain ⟨z, H', I', rz, r, rfl, q'⟩ := I.after hq
        cases rz
        exact ⟨r, rfl, .bl (!r), H', I', rfl, q'⟩
      | next => exact False.elim hq
      | brk => exact False.elim hq
      | cont => exact False.elim hq
  have one : wpAny (model X.prog X.w) X.A (tryCompare (.ref a) "__ne__" (.ref b)) (fun r s' => ∃ v, r = some v ∧ EP X pins σ Q v s') X.xe s := by
    unfold tryCompare
    refine wpAny_bind (ne_bound XK J hn (wpAny_call (codeAny_call_builtin PySem.F.cmp_object.ne.plain PySem.F.cmpEntry_ne (@PySem.W.check_slot (model X.prog X.w) _ _ s "object.__ne__" "object" "__ne__" (.ref a) [.ref b] [] _ PySem.F.cmpKind_ne PySem.F.cmpSplit_ne
      (J.type.andThen (PySem.W.looks_mroIn XK ho)) (PySem.F.cmpArgs_ne _ _) ?_))))
    refine ne_body (s := s) XK J hm.at_ hm.fn hr.in1.units0 (wpAny_mono own (fun v s' z => ?_) fun _ _ e => e)
    obtain ⟨r, rfl, z⟩ := z
    refine ⟨r, rfl, ?_⟩
    exact wpAny_pure ⟨_, rfl, z⟩
  unfold richCompare
  simp only [oneThing_ref]
  refine wpAny_holding (wpAny_bind (wpAny_cRoomFor hr.units0 ?_))
  refine wpAny_bind (J.type.here (wpAny_bind (J'.type.here ?_)))
  split
  · rename_i q; simp at q
  · refine wpAny_bind (wpAny_pure ?_)
    simp only [Bool.false_eq_true, if_false]
    refine wpAny_bind (wpAny_mono one (fun r s' z => ?_) fun _ _ e => e)
    obtain ⟨v, rfl, hq⟩ := z
    exact wpAny_pure hq
end
end B
/-! B: min(d.values()), sorted(d.items()) -/
namespace B
open PySem L2 PySem.Spec PyProof.Rows
section
variable {X : Cx}
/-- min(d.values()) -/
def rMinV : List V → Hp → VK → Prop := fun vs H Q => ∃ (v a : Addr) (kvs : List (Key × V)) (is : List Int), vs = [V.ref v] ∧ H v = some (viewHO v a) ∧ H a = some (.dK kvs) ∧ kvs.map (·.2) = is.map V.int ∧ 0 < is.length ∧ ∀ m, m ∈ is → (∀ y ∈ is, m ≤ y) → Q (.int m) H
theorem cr_minV (hc : X.calm = true) : CallR X (.builtin "min") rMinV := by
  intro pins s σ H xs us Q I r h
  obtain ⟨v, a, kvs, is, rfl, hv, ha, hi, hne, q⟩ := h
  obtain rfl := Vals.ref1 r
  obtain ⟨vs, ep, e, dat, hl, _, hval⟩ := view_at I hv ha hi
  refine call_min_walkS ?_
  obtain ⟨oI, St, hit, W, st⟩ := (PySem.W.kdl_values (prog := X.prog) (w := X.w) (knd := mixKind X.prog X.w) (d := a) (r := v) (kvs := vs) (ep := ep)).iter X.A.in1 s (I.ok.hd hc) ⟨⟨_, e, rfl, rfl⟩, dat⟩
  have hv2 : ∀ (i : Nat) (u : Value), (∃ k, vs[i]? = some (k, u)) → ∃ t, u = Value.int (is.getD i 0) t := fun i u hu => by
    obtain ⟨x, t, h1, h2⟩ := hval i u hu
    exact ⟨t, by rw [h2]; show Value.int x t = Value.int (is.getD i 0) t; rw [List.getD_eq_getElem?_getD, h1]; rfl⟩
  refine hit _ _ ⟨s.heap.objs.size, _, _, _, vs.length, _, _, fun i j => decide (is.getD i 0 < is.getD j 0), rfl, W.toS, st, fun b hb => ?_, by rw [hl]; exact hne, CmpOf.ints_lt (fun i => is.getD i 0) hv2, fun u s' hu hm => ?_⟩
  · show b < (s.heap.push oI).objs.size
    rw [Heap.size_push]
    rcases List.mem_cons.mp hb with e' | hb
    · rw [e']; exact Nat.lt_succ_self _
    · rw [List.mem_singleton.mp hb]; exact Nat.lt_succ_of_lt (by obtain ⟨ob, es, ho, _⟩ := id dat; exact Heap.lt_size ho)
  · obtain ⟨t, rfl⟩ := hv2 _ u hu
    have hk : ∀ b o, s.heap.get? b = some o → s'.heap.get? b = some o := fun b o e =>
      hm.heap b o (fun hI => absurd (Heap.lt_size e) (by rw [List.mem_singleton.mp hI]; exact Nat.lt_irrefl _)) (Heap.get?_push_of_some _ e)
    have hb := argBest_lt (fun i => is.getD i 0) (vs.length - 1)
    have hlt : argBest (fun i j => decide (is.getD i 0 < is.getD j 0)) (vs.length - 1) < is.length := by
      have := hb.1
      omega
    rw [Moved.eq_with hm]
    refine ⟨.int _, H, I.kept hk, ⟨t, rfl⟩, q _ ?_ fun y hy => ?_⟩
    · rw [List.getD_eq_getElem?_getD, List.getElem?_eq_getElem hlt, Option.getD_some]; exact List.getElem_mem hlt
    · obtain ⟨i, hi', rfl⟩ := List.getElem_of_mem hy
      have := hb.2 i (by omega)
      simpa [List.getD_eq_getElem?_getD, List.getElem?_eq_getElem hi'] using this
end
/-! ### sorted(d.items()), values ints, keys all texts or all ints -/
def kdat : Key → PyData := Sum.elim PyData.int PyData.str
def kle : Key → Key → Bool
  | .inl i, .inl j => decide (i ≤ j)
  | .inr s, .inr t => decide (s.cps.toList ≤ t.cps.toList)
  | _, _ => false
def ienc (q : Key × Int) : PyData := .tuple [kdat q.1, .int q.2]
def OneKind (ks : List (Key × Int)) : Prop := (∀ q ∈ ks, ∃ x : Str, q.1 = .inr x) ∨ ∀ q ∈ ks, ∃ i : Int, q.1 = .inl i
theorem ienc_le {a b : Key × Int} (h : (∃ x y : Str, a.1 = .inr x ∧ b.1 = .inr y) ∨ ∃ x y : Int, a.1 = .inl x ∧ b.1 = .inl y) (hl : PySem.W.dataLe false ienc a b = true) : kle a.1 b.1 = true := by
  rw [PySem.W.dataLe_eq] at hl
  obtain ⟨a1, a2⟩ := a
  obtain ⟨b1, b2⟩ := b
  rcases h with ⟨x, y, rfl, rfl⟩ | ⟨x, y, rfl, rfl⟩
  · have hl' : (!PySem.W.dataLt (.tuple [.str y, .int b2]) (.tuple [.str x, .int a2])) = true := hl
    rw [PySem.W.dataLt_pair (by simp [PySem.W.alike]) (by simp [PySem.W.alike]), PySem.W.dataLt_str] at hl'
    show decide (x.cps.toList ≤ y.cps.toList) = true
    rw [← PySem.W.not_lt_str]
    by_cases e : y = x
    · subst e; simp
    · have : PyData.eqv (.str y) (.str x) = false := by simp [PyData.eqv, e]
      rw [this] at hl'
      simpa using hl'
  · have hl' : (!PySem.W.dataLt (.tuple [.int y, .int b2]) (.tuple [.int x, .int a2])) = true := hl
    rw [PySem.W.dataLt_pair (by simp [PySem.W.alike]) (by simp [PySem.W.alike])] at hl'
    show decide (x ≤ y) = true
    rw [← PySem.W.not_lt_int]
    by_cases e : y = x
    · subst e; simp
    · have : PyData.eqv (.int y) (.int x) = false := by simp [PyData.eqv, e]
      rw [this, if_neg Bool.false_ne_true, PySem.W.dataLt_int] at hl'
      exact hl'
theorem OneKind.two {ks : List (Key × Int)} (h : OneKind ks) {a b : Key × Int} (ha : a ∈ ks) (hb : b ∈ ks) : (∃ x y : Str, a.1 = .inr x ∧ b.1 = .inr y) ∨ ∃ x y : Int, a.1 = .inl x ∧ b.1 = .inl y := by
  rcases h with h | h
  · obtain ⟨x, e⟩ := h a ha
    obtain ⟨y, e'⟩ := h b hb
    exact .inl ⟨x, y, e, e'⟩
  · obtain ⟨x, e⟩ := h a ha
    obtain ⟨y, e'⟩ := h b hb
    exact .inr ⟨x, y, e, e'⟩
theorem OneKind.alike {ks : List (Key × Int)} (h : OneKind ks) : PySem.W.AllAlike (ks.map ienc) := by
  intro d hd d' hd'
  obtain ⟨a, ha, rfl⟩ := List.mem_map.mp hd
  obtain ⟨b, hb, rfl⟩ := List.mem_map.mp hd'
  obtain ⟨a1, a2⟩ := a
  obtain ⟨b1, b2⟩ := b
  rcases h.two ha hb with ⟨x, y, e, e'⟩ | ⟨x, y, e, e'⟩
  · cases e; cases e'; simp [ienc, kdat, PySem.W.alike, PySem.W.alikeAll]
  · cases e; cases e'; simp [ienc, kdat, PySem.W.alike, PySem.W.alikeAll]
theorem isorted {ks : List (Key × Int)} (h : OneKind ks) : (ks.mergeSort (PySem.W.dataLe false ienc)).Pairwise fun a b => kle a.1 b.1 = true := by
  have := PySem.W.sort_pairwise (PySem.W.sortLe_total (PyProof.Rows.listOrd PyProof.Rows.itemOrd) false fun b => PySem.W.keyToks (ienc b)) ks
  refine List.Pairwise.imp_of_mem (fun {a b} ha hb hl => ienc_le (h.two (List.mem_mergeSort.mp ha) (List.mem_mergeSort.mp hb)) hl) this
end B
/-! B: sorted(d.items()) -/
namespace B
open PySem L2 PySem.Spec PyProof.Rows
/-- sorted(d.items()): tuples in the order of the keys -/
def rSortItems : V → Hp → VK → Prop := fun x H Q => ∃ (d : Addr) (ks : List (Key × Int)), x = .ref d ∧ H d = some (.dK (ks.map fun q => (q.1, V.int q.2))) ∧ OneKind ks ∧ ks.length ≤ 4000 ∧
  ∀ (ys : List (Key × Int)) (H' : Hp) (p : Addr) (ts : List Addr), ys.Perm ks → ys.Pairwise (fun a b => kle a.1 b.1 = true) → (∀ b o, H b = some o → H' b = some o) → H p = none → (∀ t ∈ ts, H t = none) → p ∉ ts → H' p = some (.lst (ts.map V.ref)) →
    Paired (fun (t : Addr) (q : Key × Int) => H' t = some (.tup [kV q.1, .int q.2])) ts ys → Q (.ref p) H'
def tSortItems (te : TE) : TE := fun σ H Q => te σ H fun x H1 => rSortItems x H1 Q
section
variable {prog : Program} {w : World} {A : Around} {E : Value → Shared → Prop} {s : Shared}
theorem each_refs {Rr : Value → Key × Int → Prop} : ∀ {out : List Value} {ys : List (Key × Int)}, PySem.W.EachIs Rr out ys → (∀ v q, Rr v q → ∃ t, v = .ref t) → ∃ ts : List Addr, out = ts.map Value.ref ∧ Paired (fun t q => Rr (.ref t) q) ts ys
  | _, _, .nil, _ => ⟨[], rfl, .nil⟩
  | _, _, .cons h r, hr => by
    obtain ⟨t, rfl⟩ := hr _ _ h
    obtain ⟨ts, rfl, q⟩ := each_refs r hr
    exact ⟨t :: ts, rfl, .cons h q⟩
theorem each_ix {α β : Type} {Rr : α → β → Prop} : ∀ {as : List α} {bs : List β}, as.length = bs.length → (∀ (j : Nat) (a : α) (b : β), as[j]? = some a → bs[j]? = some b → Rr a b) → PySem.W.EachIs Rr as bs
  | [], [], _, _ => .nil
  | [], _ :: _, h, _ => by simp at h
  | _ :: _, [], h, _ => by simp at h
  | a :: as, b :: bs, h, q => .cons (q 0 a b rfl rfl) (each_ix (by simpa using h) fun j x y h1 h2 => q (j + 1) x y (by simpa using h1) (by simpa using h2))
theorem paired_imp {α β : Type} {R S : α → β → Prop} : ∀ {as : List α} {bs : List β}, Paired R as bs → (∀ a b, a ∈ as → R a b → S a b) → Paired S as bs
  | _, _, .nil, _ => .nil
  | _, _, .cons h r, q => .cons (q _ _ List.mem_cons_self h) (paired_imp r fun a b ha => q a b (List.mem_cons_of_mem _ ha))
/-- what the k-th pair is, on the heap -/
def PairAt (h : Heap) (t : Addr) (q : Key × Int) : Prop := ∃ key tk', h.get? t = some { cls := .type "tuple", data := .seq #[key, .int q.2 tk'] } ∧ RelV (kV q.1) key
theorem PairAt.reads {h h2 : Heap} {t : Addr} {q : Key × Int} (p : PairAt h t q) (k : ∀ b o, h.get? b = some o → h2.get? b = some o) : Reads h2 (.ref t) (ienc q) [] := by
  obtain ⟨key, tk', f3, rk⟩ := p
  obtain ⟨q1, q2⟩ := q
  have rkey : Reads h2 key (kdat q1) [] := by
    cases q1 with
    | inl i => obtain ⟨t, rfl⟩ := (show ∃ t, key = Value.int i t from rk); exact .int i t
    | inr x => obtain ⟨t, rfl⟩ := (show ∃ t, key = Value.str x t from rk); exact .str x t
  exact .tuple (vs := #[key, .int q2 tk']) (k _ _ f3) rfl rfl (.cons (as := []) (bs := []) rkey (.cons (as := []) (bs := []) (.int q2 tk') .nil))
theorem ienc_depth (q : Key × Int) : (ienc q).depth ≤ 1 := by
  obtain ⟨q1, q2⟩ := q
  cases q1 <;> simp [ienc, kdat, PyData.depth, PyData.depthAll]
def IxP (as : List Addr) (ks : List (Key × Int)) (v : Value) (q : Key × Int) : Prop := ∃ (j : Nat) (t : Addr), v = .ref t ∧ as[j]? = some t ∧ ks[j]? = some q
/-- the list of pairs, sorted -/
theorem sort_pairs {a : Addr} {n : Nat} {as : List Addr} {ks : List (Key × Int)} {Q : Value → Shared → Prop} (ho : s.heap.get? a = some (seqObj "list" (as.map Value.ref).toArray n)) (hl : as.length = ks.length) (pr : ∀ (j : Nat) (t : Addr) (q : Key × Int), as[j]? = some t → ks[j]? = some q → PairAt s.heap t q)
    (hok : OneKind ks) (h4 : ks.length ≤ 4000) (hu : A.units + 4 < cLine)
    (h : ∀ (ts : List Addr) (ys : List (Key × Int)), ys.Perm ks → ys.Pairwise (fun a b => kle a.1 b.1 = true) → Paired (fun t q => IxP as ks (.ref t) q) ts ys → Q .none { s with heap := sortedHeap s.heap a (as.map Value.ref) (ts.map Value.ref).toArray }) :
    wpAny (model prog w) A (call (.builtin "list.sort") [.ref a]) Q E s := by
  have eR : PySem.W.EachIs (IxP as ks) (as.map Value.ref) ks := each_ix (by simpa using hl) fun j a b h1 h2 => by
    rw [List.getElem?_map] at h1
    obtain ⟨t, h3, rfl⟩ := Option.map_eq_some_iff.mp h1
    exact ⟨j, t, rfl, h3, h2⟩
  refine PySem.W.list_sort_data (enc := ienc) (R := IxP as ks) ho eR (eR.mono fun v q ⟨j, t, e, h1, h2⟩ => ⟨[], by rw [e]; exact (pr j t q h1 h2).reads fun _ _ z => z, by simp⟩) hok.alike (.inl fun d hd => ?_) (by rw [sizeLine_eq]; omega) (fun b _ => ?_) fun out ho hO => ?_
  · obtain ⟨b, _, rfl⟩ := List.mem_map.mp hd
    exact ⟨_, _, rfl⟩
  · have := ienc_depth b
    omega
  · obtain ⟨ts, rfl, q⟩ := each_refs hO fun v q ⟨_, t, e, _⟩ => ⟨t, e⟩
    exact h ts _ (List.mergeSort_perm _ _) (isorted hok) q
/-- sorted(the items' view) -/
theorem sorted_view {r d : Addr} {ep : Nat} {vs : List (Key × Value)} {ks : List (Key × Int)} {Q : Value → Shared → Prop} (hh : A.handled = none) (hv : s.heap.IsItemsView r d) (hm : s.heap.DictAt (mixKind prog w) d vs ep) (kv : KV (ks.map fun q => (q.1, V.int q.2)) vs)
    (hok : OneKind ks) (h4 : ks.length ≤ 4000) (hu : A.units + 8 < cLine)
    (hQ : ∀ (h' : Heap) (tk : Nat) (p : Addr) (as ts : List Addr) (ys : List (Key × Int)), (∀ b o, s.heap.get? b = some o → h'.get? b = some o) → r < p → (∃ n, h'.get? p = some (seqObj "list" (ts.map Value.ref).toArray n)) → as.Pairwise (· < ·) → (∀ t ∈ as, s.heap.objs.size < t ∧ t < p) → as.length = ks.length →
      (∀ (j : Nat) (t : Addr) (q : Key × Int), as[j]? = some t → ks[j]? = some q → PairAt h' t q) → ys.Perm ks → ys.Pairwise (fun a b => kle a.1 b.1 = true) → Paired (fun t q => IxP as ks (.ref t) q) ts ys → Q (.ref p) { s with heap := h', toks := tk }) :
    wpAny (model prog w) A (call (.builtin "sorted") [.ref r]) Q E s := by
  have lk' : ks.length = vs.length := by simpa using KV.length kv
  have hzl : vs.length ≤ sizeLine := by rw [← lk', sizeLine_eq]; omega
  refine Calls.call_function_entry kind_sorted plain_sorted entry_sorted (args_sorted1 _) ?_
  unfold Builtin.«sorted»
  refine wpAny_bind (m := checkCount "sorted" 1 1 _) (wpAny_pure ?_)
  refine wpAny_bind (PySem.W.kdx_collect (A := A.in1) (knd := mixKind prog w) (kvs := vs) (ep := ep) hh hv hm hzl fun h' tk as hk hl hG => ?_)
  have hal : (as.map Value.ref).length ≤ sizeLine := by rw [List.length_map, hl]; exact hzl
  have lak : as.length = ks.length := by omega
  have pr : ∀ (j : Nat) (t : Addr) (q : Key × Int), as[j]? = some t → ks[j]? = some q → PairAt h' t q := by
    intro j t q h1 h2
    obtain ⟨key, k, x, f1, f2, f3⟩ := hG.pairs j t h1
    have e2 : (ks.map fun q => (q.1, V.int q.2))[j]? = some (q.1, V.int q.2) := by rw [List.getElem?_map, h2]; rfl
    obtain ⟨qv, g1, g2, g3⟩ := LiI.paired_get kv e2
    rw [f1] at g1
    cases g1
    obtain ⟨t', rfl⟩ := (show ∃ t, x = Value.int q.2 t from g3)
    refine ⟨key, t', f3, ?_⟩
    rw [show q.1 = k from g2]
    exact relV_key (show keyIs k key = true from f2)
  refine wpAny_bind (wpAny_newList ?_ hal)
  have hoL : (h'.push (seqObj "list" (as.map Value.ref).toArray 0)).get? h'.objs.size = some (seqObj "list" (as.map Value.ref).toArray 0) := Heap.get?_push_size _ rfl
  refine wpAny_bind (wpAny_holding ?_)
  refine sort_pairs (A := A.in1) (s := ⟨h'.push (seqObj "list" (as.map Value.ref).toArray 0), s.gens, s.drawn, tk, s.os⟩) hoL lak (fun j t q h1 h2 => ?_) hok h4 (by show A.units + 1 + 4 < _; omega) fun ts ys y1 y2 y3 => ?_
  · obtain ⟨key, t', e1, e2⟩ := pr j t q h1 h2
    exact ⟨key, t', Heap.get?_push_of_some _ e1, e2⟩
  refine wpAny_pure ?_
  obtain ⟨c, hc⟩ := sortedHeap_at (vs := as.map Value.ref) (out := (ts.map Value.ref).toArray) hoL
  have keep : ∀ b o, h'.get? b = some o → (sortedHeap (h'.push (seqObj "list" (as.map Value.ref).toArray 0)) h'.objs.size (as.map Value.ref) (ts.map Value.ref).toArray).get? b = some o := fun b u e => by
    have hlt := Heap.lt_size e
    rw [sortedHeap_old (Nat.ne_of_lt hlt) (by rw [size_push']; exact Nat.lt_succ_of_lt hlt)]
    exact Heap.get?_push_of_some _ e
  refine ⟨_, rfl, hQ _ tk h'.objs.size as ts ys (fun b o e => keep b o (hk b o e)) ?_ ⟨c, hc⟩ hG.rise (fun t ht => ⟨hG.above t ht, hG.there ht⟩) lak (fun j t q h1 h2 => ?_) y1 y2 y3⟩
  · obtain ⟨o, ho, _⟩ := hv
    exact Heap.lt_size (hk _ _ ho)
  · obtain ⟨key, t', e1, e2⟩ := pr j t q h1 h2
    exact ⟨key, t', keep _ _ e1, e2⟩
end
section
variable {X : Cx} {e : Expr} {te : TE} {p apos cpos pos : Pos}
theorem ix_perm {as : List Addr} {ks ys : List (Key × Int)} {ts : List Addr} (h : Paired (fun t q => IxP as ks (.ref t) q) ts ys) : ∀ t ∈ ts, t ∈ as := fun t ht => by
  obtain ⟨j, q, e1, e2, j', t', e3, e4, e5⟩ := LiI.paired_ix h ht
  cases e3
  exact List.mem_of_getElem? e4
theorem pe_sortItems (hc : X.calm = true) (he : PE X e te) (hg : Gl X "sorted") (hm : X.mg "sorted" = none) (hu : X.A.units + 64 < cLine) (hbase : attributeBase e "items" X.env (eval e X.env) = eval e X.env := by rfl) (hline : (apos.endLine == cpos.line) = true := by rfl)
    (hs : starEach [.Call (.Attribute e "items" apos) [] [] cpos] X.env = (false, eval (.Call (.Attribute e "items" apos) [] [] cpos) X.env) :: starEach [] X.env := by rfl) :
    PE X (.Call (.Name "sorted" p) [.Call (.Attribute e "items" apos) [] [] cpos] [] pos) (tSortItems te) := by
  refine ⟨fun pins s σ H Q I hq => ?_⟩
  refine Call_ (ld_blt I hg hm (show bootBuiltins "sorted" = some (.builtin "sorted") by decide +kernel) ?_)
  refine PyProof.Rows.callWith_builtin1 (PyProof.Rows.args_cons ?_ hs) rfl rfl
  refine wpAny_Call_method (T := "dict") (id := "dict.items") hbase rfl hline F.plainAttrs_dict F.slot_dict_items F.type_dict_items (thn (he.run pins s σ H _ I hq) fun u s1 ⟨x, H1, I1, rx, d, ks, ex, hd, hok, h4, q⟩ => ?_)
  subst ex
  obtain rfl : u = Value.ref d := rx
  obtain ⟨hz, hs0, vs, kv, hdo⟩ := I1.hok d _ hd
  obtain ⟨ep, hat⟩ := hdo.dictAt
  refine ⟨hdo.typeIs, hdo.mapOf.noDict, ?_⟩
  show wpAny _ _ (callWith cpos (.builtin "dict.items") [.ref d] [] []) _ X.xe s1
  refine method_meetsIn F.slot_dict_items F.entry_dict_items rfl (PySem.evalArgs_none ⟨rfl, hdo.typeIs, F.args_dict_items_1 _, _, meets_dict_items (mixKind X.prog X.w) d hs0, ⟨vs, hdo⟩, ?_⟩)
  refine PyProof.Rows.args_nil ?_
  have hvw : (s1.heap.push { cls := .type "dict_items", data := .fields #[.ref d] }).IsItemsView s1.heap.objs.size d := ⟨_, Heap.get?_push_size _ rfl, rfl, rfl⟩
  refine sorted_view (s := { s1 with heap := s1.heap.push { cls := .type "dict_items", data := .fields #[.ref d] } }) (I1.ok.hd hc) hvw (hat.push _) kv hok h4 (by omega) fun h' tk p as ts ys hk hp hl rise ab la pr y1 y2 y3 => ?_
  have keep : ∀ b o, s1.heap.get? b = some o → h'.get? b = some o := fun b o e => hk b o (Heap.get?_push_of_some _ e)
  have hp' : s1.heap.objs.size < p := hp
  have zle : s1.heap.objs.size ≤ (s1.heap.push { cls := .type "dict_items", data := .fields #[.ref d] }).objs.size := by rw [Heap.size_push]; exact Nat.le_succ _
  have hn0 : H1 p = none := I1.hok.fresh (Nat.le_of_lt hp')
  have I2 : Inv X pins σ H1 { s1 with heap := h', toks := tk } := I1.kept (t' := tk) keep
  obtain ⟨n, hl⟩ := hl
  have lt : ts.length = ks.length := by
    have := Paired.length y3
    rw [this, y1.length_eq]
  have I3 : Inv X pins σ (upd H1 p (.lst (ts.map V.ref))) { s1 with heap := h', toks := tk } :=
    I2.take (h' := h') (t' := tk) (fun b ob _ e => e) (I1.fpOk (Nat.le_of_lt hp') hn0) ⟨by rw [List.length_map, sizeLine_eq]; omega, ts.map Value.ref, n, LiI.vals_refs ts, hl⟩
  have nd : as.Nodup := List.Pairwise.imp (fun h => Nat.ne_of_lt h) rise
  have low : ∀ t ∈ as, s1.heap.objs.size ≤ t ∧ t < p := fun t ht => ⟨Nat.le_of_lt (Nat.lt_of_le_of_lt zle (ab t ht).1), (ab t ht).2⟩
  obtain ⟨H2, I4, g, qt⟩ := DX.takeT (P := fun b vs => ∃ (j : Nat) (q : Key × Int), as[j]? = some b ∧ ks[j]? = some q ∧ vs = [kV q.1, .int q.2]) I1 as _ I3 nd fun b hb => by
    obtain ⟨j, hj⟩ := List.mem_iff_getElem?.mp hb
    obtain ⟨hb1, hb2⟩ := low b hb
    have hj2 : j < ks.length := by have := (List.getElem?_eq_some_iff.mp hj).1; omega
    obtain ⟨key, tk', e1, e2⟩ := pr j b ks[j] hj (by simp [hj2])
    refine ⟨hb1, by rw [upd_ne (Nat.ne_of_lt hb2)]; exact I1.hok.fresh hb1, _, ⟨j, ks[j], hj, by simp [hj2], rfl⟩, fun H3 => ⟨by rw [sizeLine_eq]; show 2 ≤ 16777216; omega, [key, .int (ks[j]).2 tk'], .cons e2 (.cons ⟨tk', rfl⟩ .nil), ⟨_, e1, rfl, 0, rfl⟩⟩⟩
  have gr : ∀ b o, H1 b = some o → H2 b = some o := fun b o e => g b o (by rw [upd_ne (ne_of_none e hn0)]; exact e)
  have ht := ix_perm y3
  refine ⟨.ref p, H2, I4, rfl, q ys H2 p ts y1 y2 gr hn0 (fun t z => I1.hok.fresh (low t (ht t z)).1) (fun z => Nat.lt_irrefl _ (low p (ht p z)).2) (g _ _ upd_same) (paired_imp y3 fun t q hm ⟨i, t', e, i1, i2⟩ => ?_)⟩
  cases e
  obtain ⟨vs, ⟨j, q', j1, j2, ev⟩, hH⟩ := qt t (List.mem_of_getElem? i1)
  have eij : i = j := (List.getElem?_inj (List.getElem?_eq_some_iff.mp i1).1 nd).mp (i1.trans j1.symm)
  subst eij
  have ee : q' = q := Option.some.inj (j2.symm.trans i2)
  rw [ev, ee] at hH
  exact hH
end
end B
/-! B: methods and classes called with keywords, keyword-only defaults -/
namespace B
open PySem L2 PySem.Spec PyProof.Rows
/-- how a def without defaults binds n values and the keywords ks -/
theorem kbn_mk {K : Fg} {x qual : Str} {st : Stmt} {f : Addr} {fd : FuncData} {ps : List Str} {n : Nat} {ks : List Str} {l : List Nat} (F : Fun K x qual st f fd)
    (h : ∀ (kV doc pm : Value) (an : Option Addr) (cdv ct : Value) (us ws : List Value), us.length = n → ws.length = ks.length → bindArgs (PySem.W.fnOf x qual (defArgs st) (defBody st) (defScope st) .none kV doc pm an cdv ct) ⟨us, ks.zip ws⟩ = pure (ps.zip (us ++ perm l ws))) :
    ∃ g, KBn K fd ps n ks g (fun vs zs => vs ++ perm l zs) := by
  obtain ⟨oc, od, kV, doc, pm, an, cdv, ct, osl, rfl, lk, hcd⟩ := F.ex
  exact ⟨fun us ws => us ++ perm l ws, ⟨fun s us ws _ h1 h2 => .of_eq (h kV doc pm an cdv ct us ws h1 h2), fun r1 r2 => r1.append (perm_rel l r2)⟩⟩
theorem fund_mk {K : Fg} {x qual : Str} {st : Stmt} {f D : Addr} {oc : Value} {od an : Option Addr} {osl : Array (Option Value)} {doc pm cdv ct : Value} {kws : List (Str × V)} (l : K.lookup f = some ⟨oc, od, .func (PySem.W.fnOf x qual (defArgs st) (defBody st) (defScope st) .none (.ref D) doc pm an cdv ct), osl⟩)
    (c : PySem.W.codeIn K cdv qual = true) (k : PySem.W.keepIn K (.ref f) = true) (hk : ∀ q ∈ kws, ∃ u, PySem.W.nsIn K D q.1 = some (some u) ∧ RelV q.2 u) :
    FunD K x qual (defArgs st) (defBody st) (defScope st) [] kws f (PySem.W.fnOf x qual (defArgs st) (defBody st) (defScope st) .none (.ref D) doc pm an cdv ct) :=
  ⟨⟨oc, od, .none, .ref D, doc, pm, an, cdv, ct, osl, rfl, l, c, .inl ⟨rfl, rfl⟩, .inr ⟨D, rfl, hk⟩⟩, k⟩
/-- .. and one with keyword-only defaults, those of ms lacking -/
theorem kbd_mk {K : Fg} {x qual : Str} {params : Arguments} {body : List Stmt} {scope : Scope} {f : Addr} {fd : FuncData} {ps : List Str} {n : Nat} {ks : List Str} {kws ms : List (Str × V)} {l : List Nat} (F : FunD K x qual params body scope [] kws f fd) (hk : kws ≠ []) (hms : ∀ q ∈ ms, q ∈ kws)
    (h : ∀ (D : Addr) (doc pm : Value) (an : Option Addr) (cdv ct : Value) (us mv ws : List Value), us.length = n → mv.length = ms.length → ws.length = ks.length →
      KwChain D ((ms.map (·.1)).zip mv) (bindArgs (PySem.W.fnOf x qual params body scope .none (.ref D) doc pm an cdv ct) ⟨us, ks.zip ws⟩) (ps.zip (us ++ perm l (ws ++ mv)))) :
    ∃ g, KBn K fd ps n ks g (fun vs zs => vs ++ perm l (zs ++ ms.map (·.2))) := by
  obtain ⟨mv, q⟩ := F.kbinds0 n ks ms (fun us mv ws => us ++ perm l (ws ++ mv)) hk hms (fun r1 r2 r3 => r1.append (perm_rel l (r3.append r2))) h
  exact ⟨_, q⟩
/-- o.m(e, .., k = v, ..) -/
def tMethN (C : Addr) (m : Str) (n j : Nat) (sp : Sp) (gV : List V → List V → List V) (E : XK) (to : TE) (t tk : TA) : TE := fun σ H Q => to σ H fun x H1 => ∃ a dx fs, x = .ref a ∧ H1 a = some (.ins C dx fs) ∧ fs.lookup m = none ∧
  t σ H1 fun vs H2 => tk σ H2 fun zs H3 => vs.length = n ∧ zs.length = j ∧ sp (gV (x :: vs) zs) H3 Q E
section
variable {X : Cx} {CX : CXT} {k n j : Nat} {f C : Addr} {fd : FuncData} {ps ks : List Str} {sp : Sp} {E : XK} {o e : Expr} {es : List Expr} {to : TE} {t tk : TA} {kws : List Keyword} {m : Str} {apos pos : Pos} {gV : List V → List V → List V}
theorem pe_methN0 {pl : Sem Bool} (he : PE X o to) (c : Cls X.K C) (hm : Meth X.K C m f) (F : FnOk X.prog X.w X.K X.mg X.base CX k f fd ps sp) (hr : Room k X.A) (hb : ∃ g, KBn X.K fd ps 1 ks g gV) (hx : Passes CX X E)
    (hkw : PK X kws tk) (hall : (backToKw pos (keywordEach kws X.env)).all (·.1.isSome) = true := by rfl) (hks : (backToKw pos (keywordEach kws X.env)).filterMap (·.1) = ks := by rfl)
    (hn : j = ks.length := by rfl) (hpl : ((backTo pos (starEach [] X.env)).any (·.1) || (backToKw pos (keywordEach kws X.env)).any (·.1.isNone)) = false := by rfl)
    (ht : eval (.Call (.Attribute o m apos) [] kws pos) X.env = (eval o X.env >>= fun ov => standAt apos.atName >>= fun _ => holding [ov] (getMethod ov m pl) >>= fun fx => callWith pos fx.1 fx.2 (backTo pos (starEach [] X.env)) (backToKw pos (keywordEach kws X.env))) := by rfl) :
    PE X (.Call (.Attribute o m apos) [] kws pos) (tMethN C m 0 j sp gV E to tNil tk) := by
  subst hn
  obtain ⟨g, hb⟩ := hb
  refine ⟨fun pins s σ H Q I h => PySem.W.methodCall_KW (pl := pl) (thn (he.run pins s σ H _ I h) fun u s1 ⟨x, H1, I1, rx, a, dx, fs, ex, ea, lk, q⟩ => ?_) ht⟩
  subst ex
  obtain rfl : u = Value.ref a := rx
  refine getmeth_ok I1 ea c hm lk (PySem.W.callWith_KW0 (first := [.ref a]) (h₀ := X.base) I.ok.mod.kin hm.kp hall (thn (hkw.run pos pins s1 σ H1 _ I1 q) fun ws s2 ⟨zs, H2, I2, rz, _, hl, q2⟩ => ⟨I2.kIn, ?_⟩) hpl)
  rw [hks]
  exact run_fnN (vs := [.ref a]) F hr hb hx I2 (.cons rfl .nil) rz rfl hl q2
theorem pe_methN {pl : Sem Bool} (he : PE X o to) (c : Cls X.K C) (hm : Meth X.K C m f) (F : FnOk X.prog X.w X.K X.mg X.base CX k f fd ps sp) (hr : Room k X.A) (hb : ∃ g, KBn X.K fd ps (n + 1) ks g gV) (hx : Passes CX X E) (ha : PA X (e :: es) t)
    (hkw : PK X kws tk) (hall : (backToKw pos (keywordEach kws X.env)).all (·.1.isSome) = true := by rfl) (hks : (backToKw pos (keywordEach kws X.env)).filterMap (·.1) = ks := by rfl)
    (hn : j = ks.length := by rfl) (hpl : ((backTo pos (starEach (e :: es) X.env)).any (·.1) || (backToKw pos (keywordEach kws X.env)).any (·.1.isNone)) = false := by rfl) (hs : starEach (e :: es) X.env = (false, eval e X.env) :: starEach es X.env := by rfl)
    (ht : eval (.Call (.Attribute o m apos) (e :: es) kws pos) X.env = (eval o X.env >>= fun ov => standAt apos.atName >>= fun _ => holding [ov] (getMethod ov m pl) >>= fun fx => callWith pos fx.1 fx.2 (backTo pos (starEach (e :: es) X.env)) (backToKw pos (keywordEach kws X.env))) := by rfl) :
    PE X (.Call (.Attribute o m apos) (e :: es) kws pos) (tMethN C m n j sp gV E to t tk) := by
  subst hn
  obtain ⟨g, hb⟩ := hb
  refine ⟨fun pins s σ H Q I h => PySem.W.methodCall_KW (pl := pl) (thn (he.run pins s σ H _ I h) fun u s1 ⟨x, H1, I1, rx, a, dx, fs, ex, ea, lk, q⟩ => ?_) ht⟩
  subst ex
  obtain rfl : u = Value.ref a := rx
  refine getmeth_ok I1 ea c hm lk (PySem.W.callWith_KW (first := [.ref a]) (h₀ := X.base) I.ok.mod.kin hm.kp hall (thn (ha.run pos pins s1 σ H1 _ I1 q) fun us s2 ⟨vs, H2, I2, r, q2⟩ => thn (hkw.run pos pins s2 σ H2 _ I2 q2) fun ws s3 ⟨zs, H3, I3, rz, l1, l2, q3⟩ => ⟨I3.kIn, ?_⟩) hpl hs)
  rw [hks]
  exact run_fnN (vs := .ref a :: vs) F hr hb hx I3 (.cons rfl r) rz (by rw [List.length_cons, l1]) l2 q3
theorem pe_makeKE {x : Str} {p : Pos} (M : Mk X.K C f) (F : FnOk X.prog X.w X.K X.mg X.base CX k f fd ps sp) (hr : Room (k + 1) X.A) (hg : Gl X x) (hm : X.mg x = some (.ref C)) (hb : ∃ g, KBn X.K fd ps 1 ks g gV) (hx : Passes CX X E) (hkw : PK X kws tk)
    (hall : (backToKw pos (keywordEach kws X.env)).all (·.1.isSome) = true := by rfl) (hks : (backToKw pos (keywordEach kws X.env)).filterMap (·.1) = ks := by rfl) (hdb : (x == ("__debug__" : Str)) = false := by decide) (hn : j = ks.length := by rfl)
    (hpl : ((backTo pos (starEach [] X.env)).any (·.1) || (backToKw pos (keywordEach kws X.env)).any (·.1.isNone)) = false := by rfl) : PE X (.Call (.Name x p) [] kws pos) (tMakeK C 0 j sp gV E tNil tk) := by
  subst hn
  obtain ⟨g, hb⟩ := hb
  exact pe_makeK0 M F hr hg hm hb hx hkw hall hks hdb hpl
end
end B
/-! B: promises kept where no repr is under way (the guards are known to be none), from the top on; repr of a list -/
namespace B
open PySem PySem.Spec PyProof.Rows L2
/-- the promise sp is kept by the def at f wherever no guard stands -/
structure FnG (P : Program) (w : World) (K : Fg) (mg : Str → Option Value) (base : Heap) (k : Nat) (f : Addr) (fd : FuncData) (ps : List Str) (sp : Sp) : Prop where
  ln : ∀ vs H Q E, sp vs H Q E → vs.length = ps.length
  go : ∀ {A : Around} {outer : List Env} {s : Shared} {H : Hp} {args : Args} {us : List Value} {vs : List V} {Q : VK} {E : XK}, A.guards = some [] → Room k A → Env0 P w K mg base A outer s H → BindsTo s fd args (ps.zip us) → Vals vs us → sp vs H Q E →
    codeAny (model P w) A (.call (.ref f) args) (CR CX0 outer P w H s Q E) s
section
variable {P : Program} {w : World} {K : Fg} {mg : Str → Option Value} {base : Heap}
/-- how a body's end is a call's end -/
theorem end_of {X : Cx} {Q : VK} {E : XK} {outer : List Env} {H : Hp} {s s' : Shared} {N : List Str} {qual : Str} {sc : Scope} {f : Addr} {cd : Value} {A : Around} {σ : L2.St} {H' : Hp} {v : V} {u : Value}
    (J : Inv (cxOf CX0 P w K mg base N qual sc f cd A outer s H E) [] σ H' s') (r : RelV v u) (q : Q v H') : CE outer P w H s Q u s' := ⟨v, H', J.os, J.bare, J.base, J.hok, r, q⟩
theorem okG {x qual : Str} {st : Stmt} {f : Addr} {fd : FuncData} {N ps : List Str} {k : Nat} {sp : Sp} (F : Fun K x qual st f fd) (S : FnScope N ps (defScope st)) (ln : ∀ vs H Q E, sp vs H Q E → vs.length = ps.length)
    (body : ∀ (cd : Value) (A : Around), A.guards = some [] → ∀ (outer : List Env) (s : Shared) (H : Hp) (vs : List V) (Q : VK) (E : XK), Room k (A.deeper (envOfC qual (defScope st) s.heap.objs.size f cd)) → sp vs H Q E →
      ∃ t, PSs (cxOf CX0 P w K mg base N qual (defScope st) f cd A outer s H E).nox (defBody st) t ∧ t { nx := fun _ H' => Q .non H', rt := Q } (start N vs) H) : FnG P w K mg base (k + 1) f fd ps sp := by
  obtain ⟨oc, od, kV, doc, pm, an, cd, ct, osl, rfl, lk, hcd⟩ := F.ex
  refine ⟨ln, fun {A outer s H args us vs Q E} hg hr e0 hb r h => ?_⟩
  have same : ∀ b o, base.get? b = some o → s.heap.get? b = some o := fun b o z => (e0.bs b o z).1
  have inK := e0.mod.kin.keeps same
  obtain ⟨t, ht, q⟩ := body cd A hg outer s H vs Q E (hr.deeper _) h
  refine codeAny_call_function hr.depth (inK _ _ lk) rfl S.co S.gen rfl (PySem.W.codeRec_of inK hcd) (hb _ _ _ _ (wpAny_newFunctionEnv_cells S.kind (fun y hy => ?_) fun env he s1 z => ?_))
  · obtain ⟨n, v⟩ := y
    exact (S.par n (List.of_mem_zip hy).1).imp id fun c => ⟨c, PySem.W.cellsFrom_some _ _ _ (.inl c)⟩
  · subst he
    refine ⟨(e0.mod.nolimit.keeps same).keeps z.toInCall.keep, codeAny_func (wpAny_mono (ht.nox.run [] s1 (start N vs) H _ (inv_start S hr.hd e0 (ln _ _ _ _ h) r z) q) (fun fl s' d => ?_) fun _ _ d => d)⟩
    cases fl with
    | ret u => obtain ⟨v, σ', H', J, rv, d⟩ := d; exact end_of (X := cxOf CX0 P w K mg base N qual (defScope st) f cd A outer s H E) J rv d
    | next => obtain ⟨σ', H', J, d⟩ := d; exact end_of (X := cxOf CX0 P w K mg base N qual (defScope st) f cd A outer s H E) (v := .non) J rfl d
    | brk => obtain ⟨_, _, _, d⟩ := d; exact d.elim
    | cont => obtain ⟨_, _, _, d⟩ := d; exact d.elim
end
section
variable {X : Cx} {k : Nat} {f : Addr} {fd : FuncData} {ps : List Str} {sp : Sp} {E : XK} {x : Str} {p pos : Pos} {e : Expr} {es : List Expr} {t : TA}
theorem pe_callG (F : FnG X.prog X.w X.K X.mg X.base k f fd ps sp) (gd : X.A.guards = some []) (hr : Room k X.A) (hg : Gl X x) (hm : X.mg x = some (.ref f)) (hk : PySem.W.keepIn X.K (.ref f) = true) (hb : Binds X.K fd ps []) (hx : Passes CX0 X E) (ha : PA X (e :: es) t)
    (hdb : (x == ("__debug__" : Str)) = false := by decide) (he : starEach (e :: es) X.env = (false, eval e X.env) :: starEach es X.env := by rfl) (hpl : (backTo pos (starEach es X.env)).any (·.1) = false := by rfl) :
    PE X (.Call (.Name x p) (e :: es) [] pos) (tCall sp [] E t) :=
  ⟨fun pins s σ H Q I h => wpAny_Call_Name_kw (ld_glob I hg hm (PySem.W.callWith_K (h₀ := X.base) I.ok.mod.kin hk (thn (ha.run pos pins s σ H _ I h) fun us s1 ⟨vs, H1, I1, r, q⟩ => ⟨I1.kIn, by
    have q' : sp vs H1 Q E := by have := q; simp only [List.append_nil] at this; exact this
    have hl : us.length = ps.length := r.length.symm.trans (F.ln _ _ _ _ q')
    have bd : BindsTo s1 fd ⟨us, []⟩ (ps.zip us) := by have := hb s1 us I1.kIn (by simpa using hl); simpa using this
    refine wpAny_call (codeAny_mono (F.go gd hr I1.env0 bd r q') fun r s' d => ?_)
    cases r with
    | error e => exact hx pins σ H1 s1 e s' I1 d
    | ok fl => cases fl <;> first | exact I1.after d | exact d.elim⟩) he hpl) hdb)⟩
end
/-! ### the top -/
/-- the abstract heap at the top: the script alone, and that only where it is none of the module's own things -/
def topH (K : Fg) (a : Addr) (o : Obj) (ns : List Int) : Hp := fun b => if b = a ∧ K.lookup a = none then some (.frz o (.lst (ns.map V.int))) else none
theorem topH_some {K : Fg} {a b : Addr} {o : Obj} {ns : List Int} {u : HO} (h : topH K a o ns b = some u) : b = a ∧ K.lookup a = none ∧ u = .frz o (.lst (ns.map V.int)) := by
  unfold topH at h
  split at h
  · rename_i c; exact ⟨c.1, c.2, (Option.some.inj h).symm⟩
  · cases h
theorem topH_none {K : Fg} {a b : Addr} {o : Obj} {ns : List Int} (h : ¬ (b = a ∧ K.lookup a = none)) : topH K a o ns b = none := if_neg h
section
variable {P : Program} {w : World} {K : Fg} {mg mb : Str → Option Value} {a fa : Addr} {s : Shared} {vs : List Value} {ns : List Int} {k : Nat} {fd : FuncData} {x : Str} {sp : Sp}
theorem top_seq (KX : K.In s.heap) (ha : s.heap.get? a = some { cls := .type "list", data := .seq vs.toArray }) (hi : IntsAre vs ns) (hl : ns.length ≤ sizeLine) : SqL K (topH K a { cls := .type "list", data := .seq vs.toArray } ns) a (ns.map V.int) := by
  cases e : K.lookup a with
  | none => exact .inl (.inr ⟨_, if_pos ⟨rfl, e⟩⟩)
  | some o =>
    have := (KX a o e).symm.trans ha
    cases this
    exact .inr ⟨_, vs.toArray, _, e, rfl, rfl, rfl, by rw [List.size_toArray, hi.length]; exact hl, by simpa using vals_ints hi⟩
theorem top_ok (ha : s.heap.get? a = some { cls := .type "list", data := .seq vs.toArray }) (hi : IntsAre vs ns) (hl : ns.length ≤ sizeLine) : HOk P w (topH K a { cls := .type "list", data := .seq vs.toArray } ns) s.heap := fun b u z => by
  obtain ⟨rfl, _, rfl⟩ := topH_some z
  exact ⟨ha, by rw [List.length_map]; exact hl, vs, _, vals_ints hi, ha⟩
theorem top_env (KX : K.In s.heap) (hns : s.heap.Ns mainGlobals mg) (hb : s.heap.Ns builtinsNs mb) (hbb : ∀ x : Str, x ≠ "__name__" → mb x = bootBuiltins x) (hlim : s.heap.NoLimit) (hg : s.gens = #[]) (ha : s.heap.get? a = some { cls := .type "list", data := .seq vs.toArray }) (hi : IntsAre vs ns) (hl : ns.length ≤ sizeLine) :
    K.In (hidT s.heap (topH K a { cls := .type "list", data := .seq vs.toArray } ns)) ∧ (hidT s.heap (topH K a { cls := .type "list", data := .seq vs.toArray } ns)).Ns mainGlobals mg ∧
      Env0 P w K mg (hidT s.heap (topH K a { cls := .type "list", data := .seq vs.toArray } ns)) callerA [] s (topH K a { cls := .type "list", data := .seq vs.toArray } ns) := by
  let H := topH K a { cls := .type "list", data := .seq vs.toArray } ns
  have stay : ∀ {b : Addr} {o : Obj}, s.heap.get? b = some o → (b = a → K.lookup a = none → False) → (hidT s.heap H).get? b = some o := fun z n => hidT_get z (topH_none fun c => n c.1 c.2)
  have ns' : ∀ {b : Addr} {m : Str → Option Value}, s.heap.Ns b m → (hidT s.heap H).Ns b m := fun {b m} z => by
    obtain ⟨o, es, ep, z1, z2, z3⟩ := z
    refine ⟨o, es, ep, stay z1 fun c _ => ?_, z2, z3⟩
    subst c
    rw [ha] at z1
    cases z1
    cases z2
  have kin : K.In (hidT s.heap H) := fun b o z => stay (KX b o z) fun c n => by subst c; rw [n] at z; cases z
  obtain ⟨mc, l1, l2⟩ := hlim
  exact ⟨kin, ns' hns, rfl, ⟨kin, ns' hns, ⟨mb, ns' hb, hbb⟩, mc, ns' l1, l2⟩, fun b o z => of_hidT z, Nat.le_of_eq (hidT_size _ _), trivial, fun b z => (nomatch z), top_ok ha hi hl, .of_eq hg⟩
theorem top_law (KX : K.In s.heap) (hns : s.heap.Ns mainGlobals mg) (hb : s.heap.Ns builtinsNs mb) (hbb : ∀ x : Str, x ≠ "__name__" → mb x = bootBuiltins x) (hlim : s.heap.NoLimit) (hg : s.gens = #[]) (ha : s.heap.get? a = some { cls := .type "list", data := .seq vs.toArray }) (hi : IntsAre vs ns) (hl : ns.length ≤ sizeLine)
    (hr : Room k callerA) (F : ∀ base : Heap, K.In base → base.Ns mainGlobals mg → FnG P w K mg base k fa fd [x] sp) (hbind : ∀ (s : Shared) (u : Value), BindsTo s fd ⟨[u], []⟩ [(x, u)])
    (hsp : ∀ H : Hp, Only H → SqL K H a (ns.map V.int) → sp [.ref a] H (fun v _ => v = .bl true) fun _ _ _ => False) :
    codeAny (model P w) callerA (.call (.ref fa) ⟨[.ref a], []⟩) (fun r s' => r = .ok (.ret (.bool true)) ∧ OldK s.heap s'.heap ∧ s'.os = s.os ∧ AllBare s'.gens) s := by
  obtain ⟨kin, hn, e0⟩ := top_env (P := P) (w := w) KX hns hb hbb hlim hg ha hi hl
  have only : Only (topH K a { cls := .type "list", data := .seq vs.toArray } ns) := fun b => by
    cases z : topH K a { cls := .type "list", data := .seq vs.toArray } ns b with
    | none => exact .inl rfl
    | some u => obtain ⟨_, _, rfl⟩ := topH_some z; exact .inr ⟨_, _, rfl⟩
  refine codeAny_mono ((F _ kin hn).go (us := [.ref a]) (vs := [.ref a]) rfl hr e0 (hbind s (.ref a)) (.cons rfl .nil) (hsp _ only (top_seq KX ha hi hl))) fun r s' d => ?_
  cases r with
  | error e => exact absurd d (by intro z; exact z.elim)
  | ok fl =>
    cases fl with
    | next => exact d.elim
    | brk => exact d.elim
    | cont => exact d.elim
    | ret u =>
      obtain ⟨v, H', hos, hbare, un, ok', rv, rfl⟩ := d
      cases (show u = Value.bool true from rv)
      refine ⟨rfl, OldK.of_keep fun b o z => ?_, hos, hbare⟩
      cases q : topH K a { cls := .type "list", data := .seq vs.toArray } ns b with
      | none => exact un.keep b o z q (fun c => nomatch c) (fun c => nomatch c)
      | some u =>
        obtain ⟨rfl, _, rfl⟩ := topH_some q
        have := (ok' _ _ (un.frzs _ _ _ q)).1
        rw [ha] at z
        cases z
        exact this
end
theorem walkG {l : PySem.W.OpenLaw} {n k : Nat} {q : Program} {loose : List Str} {XP : (Str → Option Value) → Heap → Prop} {YP : World → Heap → Prop} {d : DefRec} {K : Params → Fg} {sp : World → Sp} {x : Str} (hn : l.most = some n) (hn2 : n ≤ sizeLine) (hdf : d.params.defaults = []) (hr : Room k callerA)
    (hY : ∀ (w : World) (h : Heap), YP w h → (K w.params).In h)
    (F : ∀ (w : World) (mg : Str → Option Value) (fa : Addr) (h : Heap), (K w.params).In h → h.Ns mainGlobals mg → mg d.name = some (.ref fa) → ∃ fd : FuncData, (∀ (s : Shared) (u : Value), BindsTo s fd ⟨[u], []⟩ [(x, u)]) ∧
      ∀ base : Heap, (K w.params).In base → base.Ns mainGlobals mg → FnG l.prog w (K w.params) mg base k fa fd [x] (sp w))
    (hsp : ∀ (w : World) (H : Hp) (a : Addr) (ns : List Int), ns.length ≤ n → Only H → SqL (K w.params) H a (ns.map V.int) → sp w [.ref a] H (fun v _ => v = .bl true) fun _ _ _ => False) :
    PySem.W.WalkO q loose XP YP l.row.toRowW d [] (fun f vs => PySem.call f vs) :=
  Att.attach_call hn hdf fun w s₀ s₁ mg mb fa o pm cd doc a vs ns G Y ho hd hcd hmg hobj hints hlen hg => by
    obtain ⟨fd, hb, hF⟩ := F w mg fa _ (hY w _ Y) G.T.g hmg
    exact top_law (hY w _ Y) G.T.g G.T.b G.T.builtins G.T.nolimit hg hobj hints (Nat.le_trans hlen hn2) hr hF hb fun H hO hS => hsp w H a ns hlen hO hS
/-! ### repr(list) -/
def rRepr (K : Fg) : List V → Hp → VK → Prop := fun vs H Q => ∃ x d, vs = [x] ∧ Dp K H x (.list d) ∧ PyData.showableAll d = true ∧ PyData.hasDictAll d = false ∧ PyData.depthAll d ≤ 40 ∧ (listText (PyData.shownAll d)).length ≤ sizeLine ∧ Q (.str (listText (PyData.shownAll d))) H
section
variable {prog : Program} {w : World} {A : Around} {E : Value → Shared → Prop} {s : Shared}
theorem repr_list {v : Value} {d : List PyData} {az : List Addr} {Q : Value → Shared → Prop} (r : Reads s.heap v (.list d) az) (hs : PyData.showableAll d = true) (hd : PyData.hasDictAll d = false) (hg : A.guards = some []) (hu : A.units + 60 < cLine) (h40 : PyData.depthAll d ≤ 40) (hz : (listText (PyData.shownAll d)).length ≤ sizeLine)
    (hQ : ∀ h' u tk, (∀ b o, s.heap.get? b = some o → h'.get? b = some o) → Q (.str (listText (PyData.shownAll d)) u) { s with heap := h', toks := tk }) : wpAny (model prog w) A (call (.builtin "repr") [v]) Q E s := by
  have r0 := r
  cases r with
  | list h1 h2 h3 h4 =>
    rename_i a o vs n az'
    obtain ⟨bs, hb, hk⟩ := ReprAllK.of_readsAll (prog := prog) (w := w) h4 hs (fun hx => by rw [hd] at hx; cases hx) (fun t ht => Nat.le_trans (listText_mem_le ht) hz)
    have hna : a ∉ bs := not_mem_of_deeper r0 (by simp only [PyData.depth]; omega) hb
    have hTy : s.TypeIs (.ref a) "list" := ⟨o, h1, h2⟩
    refine Calls.call_function_entry F.kind_repr F.plain_repr F.entry_repr (F.args_repr1 _) ?_
    unfold Builtin.«repr»
    refine wpAny_bind (m := oneArg "repr" _) (wpAny_pure ?_)
    refine wpAny_bind (wpAny_cRoomFor (by show A.units + 1 < _; omega) ?_)
    refine wpAny_bind (wpAny_specialOf (name := Str.ofString "__repr__") hTy F.slot_list_repr.lookup ?_)
    have fin : ∀ h' u tk, (∀ b o, s.heap.get? b = some o → h'.get? b = some o) → wpAny (model prog w) A.in1 (isInstance (.str (listText (PyData.shownAll d)) u) (.type "str") >>= fun b => if b = true then ret (.str (listText (PyData.shownAll d)) u) else rule "repr.not-str" >>= fun _ => typeNameOf (.str (listText (PyData.shownAll d)) u) >>= fun nm => raiseError "TypeError" s!"__repr__ returned non-string (type {nm})")
        (fun fin s' => ∃ v, fin = .done (.ret v) ∧ Q v s') E { s with heap := h', toks := tk } := fun h' u tk hk =>
      wpAny_bind (wpAny_isInstance (T := "str") (b := true) rfl isSubtype_str_str (wpAny_pure ⟨_, rfl, hQ h' u tk hk⟩))
    obtain ⟨l⟩ := vs
    refine wpAny_bind (m := callSpecialIfBound? (.ref a) (Str.ofString "__repr__")) (wpAny_callSpecialIfBound?_slot (name := Str.ofString "__repr__") hTy F.slot_list_repr ?_)
    cases l with
    | nil =>
      have h4' : ReadsAll s.heap [] d _ := h4
      cases h4'
      exact call_list_repr_empty hTy h1 h3 (fin s.heap _ _ fun _ _ e => e)
    | cons x l =>
      exact call_list_reprK h1 h2 h3 hna (by simpa using hk.length_eq) (fun i y e => hk.item i y (by simpa using e)) (show A.in1.guards = some [] from hg) (fun b _ => Clear.nil b) (by show A.units + 1 + _ < _; omega) (fun _ _ e => e) (fun h' u tk hk' => fin h' u tk hk') hz
end
theorem cr_repr {X : Cx} (hg : X.A.guards = some []) (hu : X.A.units + 64 < cLine) : CallR X (.builtin "repr") (rRepr X.K) := by
  intro pins s σ H xs us Q I r h
  obtain ⟨x, d, rfl, hd, h1, h2, h3, h4, q⟩ := h
  obtain ⟨u, rfl, ru⟩ := vals1 r
  obtain ⟨az, rd⟩ := Dp.reads I _ _ _ hd ru
  exact repr_list rd h1 h2 hg (by omega) h3 h4 fun h' u tk hk => ⟨.str _, H, I.kept hk, ⟨_, rfl⟩, q⟩
end B
/-! B: dicts that change, told by any expression; dict comprehensions with tests; sorted keys -/
namespace B
open PySem L2
open PySem.W (Tup T3 T4 Datum DatumOrd)
open Evl (Ex)
section
variable {κ α : Type} [DecidableEq κ] [PyKey κ] [Py α] {K : Fg} {W W' : Wd} {d : Addr} {kv : List (κ × α)} {ε : Ef} {σ : SS} {te ty tv tx : TE}
/-- the dict at d holds kv, now and while ε is at work -/
def DStay {κ α : Type} [PyKey κ] [Py α] (ε : Ef) (K : Fg) (W : Wd) (d : Addr) (kv : List (κ × α)) : Prop := ∀ W', Stp ε W W' → ∃ ks, W'.H d = some (.dK ks) ∧ KReps K W'.B ks kv
theorem DMut.stay (m : DMut K W d kv) (hS : d ∉ ε.S) : DStay ε K W d kv := fun _ g => (m.s g hS).ex
theorem DMut.pur (m : DMut K W d kv) : DStay pur K W d kv := fun _ g => (m.gr g.pure).ex
theorem DictAt.stay {D : Dict κ α} (h : DictAt K W (.ref d) D) : DStay ε K W d D.kv := fun W' g => by
  obtain ⟨a, ks, e, _, h2, r⟩ := h.s g
  cases e
  exact ⟨ks, h2, r⟩
/-- d.get(k, x) -/
theorem ev_dget2E {k : κ} {x : α} (hd : EvR ε K te σ W (Raw.mk (.ref d))) (m : DStay ε K W d kv) (hk : EvP ε ty σ W (fun u _ => u = kV (PyKey.key k))) (hx : EvR ε K tx σ W x) : EvR ε K (tDGet2 te ty tx) σ W ((klook kv k).getD x) := fun W1 g1 Q q => hd W1 g1 _ fun v W1' g1' e => by
  obtain ⟨ks, e1, r⟩ := m _ (g1.trans g1')
  refine ⟨d, e, .inl ⟨ks, .inl e1⟩, hk W1' (g1.trans g1') _ fun u W2 g2 eu => hx W2 ((g1.trans g1').trans g2) _ fun w W3 g3 rw => ?_⟩
  obtain ⟨ks, e3, r⟩ := m _ (((g1.trans g1').trans g2).trans g3)
  rcases klk r k with ⟨h1, h2⟩ | ⟨y, v, h1, h2, h3⟩
  · exact ⟨none, .inl ⟨ks, _, .inl e3, eu, h2.symm⟩, q _ W3 ((g1'.trans g2).trans g3) (by rw [h1]; exact rw)⟩
  · exact ⟨some v, .inl ⟨ks, _, .inl e3, eu, h2.symm⟩, q _ W3 ((g1'.trans g2).trans g3) (by rw [h1]; exact h3)⟩
/-- d[k] -/
theorem ev_dgetE {k : κ} {x : α} (hd : EvR ε K te σ W (Raw.mk (.ref d))) (m : DStay ε K W d kv) (hk : EvP ε ty σ W (fun u _ => u = kV (PyKey.key k))) (hx : klook kv k = some x) : EvR ε K (tDGet te ty) σ W x := fun W1 g1 Q q => hd W1 g1 _ fun v W1' g1' e => hk W1' (g1.trans g1') _ fun u W2 g2 eu => by
  obtain ⟨ks, e3, r⟩ := m _ ((g1.trans g1').trans g2)
  obtain ⟨v, h1, h2⟩ := r.some hx
  exact ⟨d, v, e, .inl ⟨ks, _, .inl e3, eu, h1.symm⟩, q _ W2 (g1'.trans g2) h2⟩
/-- k in d -/
theorem ev_dinE {k : κ} (hd : EvR ε K te σ W (Raw.mk (.ref d))) (m : DStay ε K W d kv) (hk : EvP ε ty σ W (fun u _ => u = kV (PyKey.key k))) : EvR ε K (tDIn ty te) σ W (decide (k ∈ kv.map (·.1))) := fun W1 g1 Q q => hk W1 g1 _ fun u W2 g2 eu => hd W2 (g1.trans g2) _ fun v W3 g3 e => by
  obtain ⟨ks, e3, r⟩ := m _ ((g1.trans g2).trans g3)
  rcases klk r k with ⟨h1, h2⟩ | ⟨y, v, h1, h2, h3⟩
  · refine ⟨d, none, e, .inl ⟨ks, _, .inl e3, eu, h2.symm⟩, q _ W3 (g2.trans g3) ?_⟩
    show V.bl _ = V.bl _
    rw [decide_eq_false (klook_none.mp h1)]; rfl
  · refine ⟨d, some v, e, .inl ⟨ks, _, .inl e3, eu, h2.symm⟩, q _ W3 (g2.trans g3) ?_⟩
    show V.bl _ = V.bl _
    rw [decide_eq_true (List.mem_map.mpr ⟨_, klook_mem h1, rfl⟩)]; rfl
/-- len(d) -/
theorem ev_lenDE (hd : EvR ε K te σ W (Raw.mk (.ref d))) (m : DStay ε K W d kv) : EvR ε K (tCB rLenD (tCons te tNil)) σ W (kv.length : Int) := fun W1 g1 Q q => hd W1 g1 _ fun v W2 g2 e => by
  obtain ⟨ks, e3, r⟩ := m _ (g1.trans g2)
  refine ⟨d, ks, by rw [show v = V.ref d from e], e3, ?_⟩
  rw [KReps.len r]
  exact q _ W2 g2 rfl
/-- d[k] = v -/
theorem s_dputE {D : Ends} {k : κ} {x : α} (hd : EvR pur K te σ W (Raw.mk (.ref d))) (m : DMut K W d kv) (hv : EvR pur K tv σ W x) (hk : EvP pur ty σ W (fun u _ => u = kV (PyKey.key k))) (hl : kv.length < 100000)
    (q : ∀ W', Md [d] W W' → On W W' → DMut K W' d (kput kv k x) → D.nx σ W'.H) : sDPut te ty tv D σ W.H := hv W (.start trivial) _ fun v W1 g1 rv => hd W1 g1 _ fun v0 W1' g1' e0 => hk W1' (g1.trans g1') _ fun u W2 g2 e => by
  have g := ((g1.trans g1').trans g2).pure
  obtain ⟨ks, e1, r⟩ := (m.gr g).ex
  have b := (m.gr g).b
  exact ⟨d, _, e0, .inl ⟨ks, PyKey.key k, e1, e, by rw [KReps.len r]; exact Evl.sz_lt hl, rfl⟩, q (W2.put d _ b) ((Grow.s g).trans (md_put b)) (g.on.trans (md_put b).on) ⟨b, _, upd_same, KReps.put r k (rep_s (g1'.trans g2) rv)⟩⟩
theorem q_dputE {D : Ends} {tz : TS} {k : κ} {x : α} (hd : EvR pur K te σ W (Raw.mk (.ref d))) (m : DMut K W d kv) (hv : EvR pur K tv σ W x) (hk : EvP pur ty σ W (fun u _ => u = kV (PyKey.key k))) (hl : kv.length < 100000)
    (q : ∀ W', Md [d] W W' → On W W' → DMut K W' d (kput kv k x) → tz D σ W'.H) : tSeq (sDPut te ty tv) tz D σ W.H := s_dputE (D := { D with nx := tz D }) hd m hv hk hl q
/-- d.pop(k), the value left alone -/
theorem s_dpopE {D : Ends} {k : κ} {x : α} (hd : EvR pur K te σ W (Raw.mk (.ref d))) (m : DMut K W d kv) (hk : EvP pur ty σ W (fun u _ => u = kV (PyKey.key k))) (hx : klook kv k = some x)
    (q : ∀ W', Md [d] W W' → On W W' → DMut K W' d (kdrop kv k) → D.nx σ W'.H) : tDrop (tDPop1 te ty) D σ W.H := hd W (.start trivial) _ fun v0 W1 g1 e0 => by
  obtain ⟨ks, e1, r⟩ := (m.gr g1.pure).ex
  refine ⟨d, e0, .inl ⟨ks, .inl e1⟩, hk W1 g1 _ fun u W2 g2 e => ?_⟩
  have g := (g1.trans g2).pure
  obtain ⟨ks, e1, r⟩ := (m.gr g).ex
  have b := (m.gr g).b
  obtain ⟨v, h1, h2⟩ := r.some hx
  exact ⟨ks, PyKey.key k, v, e1, e, h1, q (W2.put d _ b) ((Grow.s g).trans (md_put b)) (g.on.trans (md_put b).on) ⟨b, _, upd_same, KReps.drop r k⟩⟩
/-- d, where it is a dict that stays -/
theorem DictAt.mut' {v : V} {κ α : Type} [PyKey κ] [Py α] {D : Dict κ α} (h : DictAt K W v D) : ∃ a ks, v = .ref a ∧ W.H a = some (.dK ks) ∧ KReps K W.B ks D.kv := by
  obtain ⟨a, ks, e, _, h2, r⟩ := h
  exact ⟨a, ks, e, h2, r⟩
end
section
variable {κ : Type} [DecidableEq κ] [PyKey κ] {K : Fg} {W : Wd} {d : Addr} {kv : List (κ × Int)} {ε : Ef} {σ : SS} {te : TE}
/-- sum(d.values()) -/
theorem ev_sumVE (hd : EvR ε K te σ W (Raw.mk (.ref d))) (m : DStay ε K W d kv) : EvR ε K (tCB rSumV (tCons (tVals te) tNil)) σ W (kv.map (·.2)).sum := fun W1 g1 Q k => hd W1 g1 _ fun v W2 g2 e => by
  obtain ⟨ks, e3, r⟩ := m _ (g1.trans g2)
  refine ⟨d, ks, e, e3, fun v hv => ?_⟩
  refine ⟨v, d, ks, kv.map (·.2), rfl, upd_same, by rw [upd_ne (fun z => by rw [z, hv] at e3; cases e3)]; exact e3, kreps_ints r, ?_⟩
  exact k _ (W2.put v (viewHO v d) (W2.free hv)) (g2.and (W2.grow_put hv)) rfl
/-- min(d.values()) -/
theorem ev_minVE {i : Int} (hd : EvR ε K te σ W (Raw.mk (.ref d))) (m : DStay ε K W d kv) (h1 : i ∈ kv.map (·.2)) (h2 : ∀ y ∈ kv.map (·.2), i ≤ y) : EvR ε K (tCB rMinV (tCons (tVals te) tNil)) σ W i := fun W1 g1 Q k => hd W1 g1 _ fun v W2 g2 e => by
  obtain ⟨ks, e3, r⟩ := m _ (g1.trans g2)
  refine ⟨d, ks, e, e3, fun v hv => ?_⟩
  refine ⟨v, d, ks, kv.map (·.2), rfl, upd_same, by rw [upd_ne (fun z => by rw [z, hv] at e3; cases e3)]; exact e3, kreps_ints r, List.length_pos_of_mem h1, fun m' h3 h4 => ?_⟩
  have : m' = i := Int.le_antisymm (h4 i h1) (h2 m' h3)
  rw [this]
  exact k _ (W2.put v (viewHO v d) (W2.free hv)) (g2.and (W2.grow_put hv)) rfl
end
section
variable {κ α : Type} [PyKV κ] [Py α] {K : Fg} {W : Wd} {d : Addr} {kv : List (κ × α)} {ε : Ef} {σ : SS} {te : TE}
theorem kreps_keys {H H' : Hp} {ks : List (Key × V)} {kv : List (κ × α)} (r : KReps K H ks kv) : Reps K H' (ks.map fun q => kV q.1) (kv.map (·.1)) := by
  induction r with
  | nil => exact .nil
  | @cons p q _ _ a b ih => exact .cons (by show Py.rep K H' (kV p.1) q.1; rw [a.1]; exact PyKV.krep _ _ _) ih
/-- list(d) -/
theorem ev_listDE (hd : EvR ε K te σ W (Raw.mk (.ref d))) (m : DStay ε K W d kv) : EvR ε K (tCB rListD (tCons te tNil)) σ W (kv.map (·.1)) := fun W1 g1 Q q => hd W1 g1 _ fun v W2 g2 e => by
  obtain ⟨ks, e3, r⟩ := m _ (g1.trans g2)
  exact ⟨d, ks, by rw [show v = V.ref d from e], e3, fun p hp => q _ (W2.add p _) (g2.and (W2.grow_add hp)) ⟨p, _, rfl, upd_same, kreps_keys r⟩⟩
end
/-! ### keys in order -/
def sle (a b : Str) : Bool := decide (a.cps.toList ≤ b.cps.toList)
theorem sle_trans {a b c : Str} (h : sle a b = true) (h' : sle b c = true) : sle a c = true := by
  simp only [sle, decide_eq_true_eq] at *
  exact List.le_trans h h'
theorem sle_total (a b : Str) : sle a b = true ∨ sle b a = true := by
  simp only [sle, decide_eq_true_eq]
  exact List.le_total _ _
theorem sle_anti {a b : Str} (h : sle a b = true) (h' : sle b a = true) : a = b := by
  simp only [sle, decide_eq_true_eq] at *
  have := List.le_antisymm h h'
  cases a with
  | mk x => cases b with
    | mk y => exact congrArg Str.mk (Array.toList_inj.mp this)
theorem rising_pw : ∀ (r : List Str) (p : Str), PyProof.Rows.risingS p r = true → (p :: r).Pairwise (fun a b => sle a b = true)
  | [], p, _ => by simp
  | x :: r, p, h => by
    simp only [PyProof.Rows.risingS, Bool.and_eq_true, Bool.not_eq_true'] at h
    have ih := rising_pw r x h.2
    rw [List.pairwise_cons]
    have px : sle p x = true := by
      have := h.1
      rw [PyProof.Rows.ltCps_eq] at this
      have := of_decide_eq_false this
      simp only [sle, decide_eq_true_eq]
      exact List.not_lt.mp this
    refine ⟨fun a ha => ?_, ih⟩
    rcases List.mem_cons.mp ha with rfl | ha
    · exact px
    · exact sle_trans px ((List.pairwise_cons.mp ih).1 a ha)
theorem sorted_pw {ys : List Str} (h : PyProof.Rows.sortedS ys = true) : ys.Pairwise (fun a b => sle a b = true) := by
  cases ys with
  | nil => exact .nil
  | cons x r => exact rising_pw r x h
theorem str_sorted_uniq {xs ys : List Str} (hp : xs.Perm ys) (h1 : xs.Pairwise (fun a b => sle a b = true)) (h2 : ys.Pairwise (fun a b => sle a b = true)) : xs = ys :=
  hp.eq_of_pairwise (fun a b _ _ h h' => sle_anti h h') h1 h2
def sortS (xs : List Str) : List Str := xs.mergeSort sle
theorem sortS_perm (xs : List Str) : (sortS xs).Perm xs := List.mergeSort_perm _ _
theorem sortS_pw (xs : List Str) : (sortS xs).Pairwise (fun a b => sle a b = true) := List.pairwise_mergeSort (le := sle) (fun _ _ _ => sle_trans) (fun a b => by rcases sle_total a b with h | h <;> simp [h]) xs
theorem sortS_eq {xs ys : List Str} (hp : ys.Perm xs) (h : ys.Pairwise (fun a b => sle a b = true)) : ys = sortS xs := str_sorted_uniq (hp.trans (sortS_perm xs).symm) h (sortS_pw xs)
abbrev rSortedDS : List V → Hp → VK → Prop := fun xs H Q => ∃ (a : Addr) (kvs : List (Key × V)) (ks : List Str), xs = [.ref a] ∧ Rd H a (.dK kvs) ∧ kvs.map (·.1) = ks.map Sum.inr ∧ ks.length < 64 ∧ ∀ ys p, ys.Perm ks → PyProof.Rows.sortedS ys = true → H p = none → Q (.ref p) (upd H p (.lst (ys.map V.str)))
abbrev rSortedDI : List V → Hp → VK → Prop := fun xs H Q => ∃ (a : Addr) (kvs : List (Key × V)) (ks : List Int), xs = [.ref a] ∧ Rd H a (.dK kvs) ∧ kvs.map (·.1) = ks.map Sum.inl ∧ ks.length < 64 ∧ ∀ (ys : List Int) (p : Addr), ys.Perm ks → ys.Pairwise (· ≤ ·) → H p = none → Q (.ref p) (upd H p (.lst (ys.map V.int)))
theorem cr_sortedDS {X : Cx} (hc : X.calm = true := by rfl) : CallR X (.builtin "sorted") rSortedDS := call_sortedD hc
theorem cr_sortedDI {X : Cx} (hc : X.calm = true := by rfl) : CallR X (.builtin "sorted") rSortedDI := call_sortedDI hc
section
variable {α : Type} [Py α] {K : Fg} {W : Wd} {d : Addr} {ε : Ef} {σ : SS} {te : TE}
theorem kreps_keysS {H : Hp} {ks : List (Key × V)} {kv : List (Str × α)} (r : KReps K H ks kv) : ks.map (·.1) = (kv.map (·.1)).map Sum.inr := by
  induction r with
  | nil => rfl
  | cons a b ih => rw [List.map_cons, List.map_cons, List.map_cons, ih, a.1]; rfl
theorem kreps_keysI {H : Hp} {ks : List (Key × V)} {kv : List (Int × α)} (r : KReps K H ks kv) : ks.map (·.1) = (kv.map (·.1)).map Sum.inl := by
  induction r with
  | nil => rfl
  | cons a b ih => rw [List.map_cons, List.map_cons, List.map_cons, ih, a.1]; rfl
/-- sorted(d) -/
theorem ev_sortedDS {kv : List (Str × α)} (hd : EvR ε K te σ W (⟨kv⟩ : Dict Str α)) (hl : kv.length < 64) : EvR ε K (tCB rSortedDS (tCons te tNil)) σ W (sortS (kv.map (·.1))) := fun W1 g1 Q k => hd W1 g1 _ fun v W2 g2 ⟨a, ks, e, rd, r⟩ =>
  ⟨a, ks, kv.map (·.1), by rw [e], W2.sub.rd rd, kreps_keysS r, by simpa using hl, fun ys p h1 h2 hp => by
    rw [sortS_eq h1 (sorted_pw h2)]
    exact k _ (W2.add p _) (g2.and (W2.grow_add hp)) ⟨p, _, rfl, upd_same, str_reps _⟩⟩
theorem ev_sortedDI {kv : List (Int × α)} {ys : List Int} (hd : EvR ε K te σ W (⟨kv⟩ : Dict Int α)) (hl : kv.length < 64) (hp : ys.Perm (kv.map (·.1))) (ho : ys.Pairwise (· ≤ ·)) : EvR ε K (tCB rSortedDI (tCons te tNil)) σ W ys := fun W1 g1 Q k => hd W1 g1 _ fun v W2 g2 ⟨a, ks, e, rd, r⟩ =>
  ⟨a, ks, kv.map (·.1), by rw [e], W2.sub.rd rd, kreps_keysI r, by simpa using hl, fun zs p h1 h2 hp0 => by
    have e2 : zs = ys := (h1.trans hp.symm).eq_of_pairwise (fun a b _ _ h h' => Int.le_antisymm h h') h2 ho
    subst e2
    exact k _ (W2.add p _) (g2.and (W2.grow_add hp0)) ⟨p, _, rfl, upd_same, int_reps _⟩⟩
end
end B
/-! B: new dicts that may change: comprehensions with targets and tests, also over a locked dict -/
namespace B
open PySem L2
open PySem.W (Tup T3 T4 Datum DatumOrd)
open Evl (Ex)
/-- a new dict that may change -/
def EvM {κ α : Type} [DecidableEq κ] [PyKey κ] [Py α] (ε : Ef) (K : Fg) (te : TE) (σ : SS) (W : Wd) (kv : List (κ × α)) : Prop :=
  ∀ W1, Stp ε W W1 → ∀ Q : VK, (∀ p W2, Stp ε W1 W2 → W1.H p = none → DMut K W2 p kv → Q (.ref p) W2.H) → te σ W1.H Q
def kfill {κ α : Type} [DecidableEq κ] (l : List (κ × α)) : List (κ × α) := l.foldl (fun kv e => kput kv e.1 e.2) []
theorem kput_new {κ α : Type} [DecidableEq κ] {kv : List (κ × α)} {k : κ} {v : α} (h : k ∉ kv.map (·.1)) : kput kv k v = kv ++ [(k, v)] := by
  unfold kput
  rw [if_neg]
  intro z
  obtain ⟨q, h1, h2⟩ := List.any_eq_true.mp z
  exact h (List.mem_map.mpr ⟨q, h1, of_decide_eq_true h2⟩)
theorem kfill_app {κ α : Type} [DecidableEq κ] : ∀ (l kv : List (κ × α)), ((kv ++ l).map (·.1)).Nodup → l.foldl (fun kv e => kput kv e.1 e.2) kv = kv ++ l
  | [], kv, _ => by simp
  | e :: l, kv, n => by
    have h : e.1 ∉ kv.map (·.1) := by
      rw [List.map_append, List.nodup_append] at n
      intro z
      exact n.2.2 _ z e.1 (by simp) rfl
    rw [List.foldl_cons, kput_new h, kfill_app l (kv ++ [(e.1, e.2)]) (by simpa using n)]
    simp
theorem kfill_id {κ α : Type} [DecidableEq κ] {l : List (κ × α)} (n : (l.map (·.1)).Nodup) : kfill l = l := kfill_app l [] (by simpa using n)
theorem kfill_len {κ α : Type} [DecidableEq κ] : ∀ (l kv : List (κ × α)), (l.foldl (fun kv e => kput kv e.1 e.2) kv).length ≤ kv.length + l.length
  | [], kv => by simp
  | e :: l, kv => by
    rw [List.foldl_cons]
    have := kfill_len l (kput kv e.1 e.2)
    have := kput_len kv e.1 e.2
    rw [List.length_cons]; omega
section
variable {α β κ : Type} [Py α] [Py β] [DecidableEq κ] [PyKey κ] {K : Fg} {W : Wd} {σ : SS} {ε : Ef} {te tk tv : TE} {tt : TT} {wi : TI} {tg : TG} {vs : List Nat}
theorem EvM.toD {kv : List (κ × α)} (h : EvM ε K te σ W kv) : EvD ε K te σ W (⟨kv⟩ : Dict κ α) := fun W1 g1 Q k => h W1 g1 Q fun p W2 g2 f m => by
  obtain ⟨ks, e, r⟩ := m.ex
  exact k _ (W2.fix p _ e) (g2.fix f g1.i e m.b) ⟨p, ks, rfl, upd_same, e, KReps.mono (exExt (ex_fix e m.b)) r⟩
theorem EvM.is {kv kv' : List (κ × α)} (h : EvM ε K te σ W kv) (e : kv = kv') : EvM ε K te σ W kv' := e ▸ h
theorem em_new : EvM ε K tDNewK σ W ([] : List (κ × α)) := fun W1 g1 Q k p hp => k p (W1.put p (.dK []) (W1.free hp)) (g1.rf.and (W1.grow_put hp)) hp (DMut.new W1 hp)
theorem s_asgM {D : Ends} {i : Nat} {kv : List (κ × α)} (h : EvM ε K te σ W kv) (s : ε.I W) (k : ∀ p W', Stp ε W W' → W.H p = none → DMut K W' p kv → D.nx (σ.set i (some (.ref p))) W'.H) : tAsg te (gName i) D σ W.H := h W (.start s) _ k
theorem q_asgM {D : Ends} {tz : TS} {i : Nat} {kv : List (κ × α)} (h : EvM ε K te σ W kv) (s : ε.I W) (k : ∀ p W', Stp ε W W' → W.H p = none → DMut K W' p kv → tz D (σ.set i (some (.ref p))) W'.H) : tSeq (tAsg te (gName i)) tz D σ W.H := h W (.start s) _ k
theorem s_retM {D : Ends} {kv : List (κ × α)} (h : EvM ε K te σ W kv) (s : ε.I W) (k : ∀ p W', Stp ε W W' → W.H p = none → DMut K W' p kv → D.rt (.ref p) W'.H) : tRet te D σ W.H := h W (.start s) _ k
/-- {k: v for x in .. if t} -/
theorem em_dc {xs : List α} {p : α → Bool} {f : α → κ × β} {P : α → SS → SS → Wd → Prop} (hi : EvI ε K wi σ W xs) (hg : GT K tg P) (hw : ∀ x σ2 W', P x (wipe σ vs) σ2 W' → wipe σ2 vs = wipe σ vs)
    (ht : ∀ x W' σ2, x ∈ xs → Stp ε W W' → P x (wipe σ vs) σ2 W' → EvT ε tt σ2 W' (p x))
    (hk : ∀ x W' σ2, x ∈ xs → p x = true → Stp ε W W' → P x (wipe σ vs) σ2 W' → EvP ε tk σ2 W' (fun u _ => u = kV (PyKey.key (f x).1)))
    (he : ∀ x W' σ2, x ∈ xs → p x = true → Stp ε W W' → P x (wipe σ vs) σ2 W' → EvR ε K tv σ2 W' (f x).2)
    (hP : ∀ x σ2 W' W'', P x (wipe σ vs) σ2 W' → Stp ε W' W'' → P x (wipe σ vs) σ2 W'') (hl : xs.length < 100000) : EvM ε K (tDc wi tg tt tk tv vs) σ W (kfill ((xs.filter p).map f)) := fun W1 g1 Q k =>
  hi W1 g1 _ fun J S W2 g2 s2 sg src D hD => by
    have DS : D ∉ ε.S := Ef.off g2.i hD
    have ln : ∀ i, (kfill (((xs.take i).filter p).map f)).length ≤ i := fun i => by
      have h1 := kfill_len (((xs.take i).filter p).map f) ([] : List (κ × β))
      have h2 := List.length_filter_le p (xs.take i)
      have h3 : (xs.take i).length ≤ i := by rw [List.length_take]; omega
      rw [List.length_map] at h1
      have h4 : ([] : List (κ × β)).length = 0 := rfl
      unfold kfill
      omega
    refine ⟨fun i m H => m = xs.length - i ∧ i ≤ xs.length ∧ ∃ Wi, Wi.H = H ∧ Stp ε W2 Wi ∧ DMut K Wi D (kfill (((xs.take i).filter p).map f)), ⟨xs.length, rfl, Nat.zero_le _, W2.put D (.dK []) (W2.free hD), rfl, ⟨md_mut (.refl _ _) (W2.free hD) hD, i_put DS g2.i _⟩, DMut.new W2 hD⟩, ?_⟩
    rintro i m H ⟨rfl, hle, Wi, rfl, gi, dm⟩
    have si : S Wi := sg _ _ s2 gi
    by_cases hlt : i < xs.length
    · refine .inr ⟨src.go i Wi si hlt, fun H => i + 1 ≤ xs.length ∧ ∃ Wi, Wi.H = H ∧ Stp ε W2 Wi ∧ DMut K Wi D (kfill (((xs.take (i + 1)).filter p).map f)), fun H' h' => ⟨_, by omega, rfl, h'⟩, fun v H'' hy => ?_⟩
      obtain ⟨x, W3, rfl, g3', hx, r⟩ := src.yld i Wi v H'' si hlt hy
      have g3 : Stp ε Wi W3 := gi.rf.and g3'
      have hm : x ∈ xs := List.mem_of_getElem? hx
      have tkk : xs.take (i + 1) = xs.take i ++ [x] := by rw [List.take_add_one, hx]; rfl
      refine hg x v W3 _ _ r fun σ2 hp => ⟨hw x σ2 W3 hp, ?_⟩
      have G3 := ((g1.trans g2).trans gi).trans g3
      refine ht x W3 σ2 hm G3 hp W3 g3.rf _ fun W4 g4 => ?_
      have G4 := G3.trans g4
      cases hpx : p x with
      | true =>
        rw [if_pos rfl]
        refine hk x W4 σ2 hm hpx G4 (hP x σ2 W3 W4 hp g4) W4 g4.rf _ fun u W5 g5 eu => ?_
        refine he x W5 σ2 hm hpx (G4.trans g5) (hP x σ2 W4 W5 (hP x σ2 W3 W4 hp g4) g5) W5 g5.rf _ fun w W6 g6 rw' => ?_
        have G6 : Stp ε Wi W6 := ((g3.trans g4).trans g5).trans g6
        obtain ⟨ks, e6, r6⟩ := (dm.s G6 DS).ex
        have b6 := (dm.s G6 DS).b
        have ef : kfill (((xs.take (i + 1)).filter p).map f) = kput (kfill (((xs.take i).filter p).map f)) (f x).1 (f x).2 := by
          rw [tkk, List.filter_append, List.map_append]
          simp only [List.filter_cons, hpx, if_pos, List.filter_nil, List.map_cons, List.map_nil]
          unfold kfill
          rw [List.foldl_append]; rfl
        refine ⟨ks, PyKey.key (f x).1, eu, e6, by rw [KReps.len r6]; exact Evl.sz_lt (by have := ln i; omega), hlt, W6.put D _ b6, rfl, ⟨md_mut (gi.trans G6).md b6 hD, i_put DS G6.i _⟩, ⟨b6, _, upd_same, ?_⟩⟩
        rw [ef]
        exact KReps.put r6 (f x).1 rw'
      | false =>
        rw [if_neg Bool.false_ne_true]
        have ef : kfill (((xs.take (i + 1)).filter p).map f) = kfill (((xs.take i).filter p).map f) := by
          rw [tkk, List.filter_append, List.map_append]
          simp only [List.filter_cons, hpx, List.filter_nil, List.map_nil, List.append_nil, if_neg Bool.false_ne_true]
        exact ⟨hlt, W4, rfl, (gi.trans g3).trans g4, by rw [ef]; exact dm.s (g3.trans g4) DS⟩
    · have e : i = xs.length := by omega
      subst e
      rw [List.take_length] at dm
      exact .inl ⟨src.stop _ Wi si (Nat.le_refl _), k D Wi (g2.trans gi) (by
        cases e : W1.H D with
        | none => rfl
        | some o => exact absurd hD (g2.md.d D (by rw [e]; exact fun z => by cases z))) dm⟩
theorem em_dcN {j : Nat} {xs : List α} {p : α → Bool} {f : α → κ × β} (hi : EvI ε K wi σ W xs) (ht : ∀ x v W', x ∈ xs → Stp ε W W' → rep K W'.B v x → EvT ε tt ((wipe σ [j]).set j (some v)) W' (p x))
    (hk : ∀ x v W', x ∈ xs → p x = true → Stp ε W W' → rep K W'.B v x → EvP ε tk ((wipe σ [j]).set j (some v)) W' (fun u _ => u = kV (PyKey.key (f x).1)))
    (he : ∀ x v W', x ∈ xs → p x = true → Stp ε W W' → rep K W'.B v x → EvR ε K tv ((wipe σ [j]).set j (some v)) W' (f x).2) (hl : xs.length < 100000) : EvM ε K (tDc wi (gName j) tt tk tv [j]) σ W (kfill ((xs.filter p).map f)) :=
  em_dc (P := PN K j) hi gt_name (fun x σ2 W' ⟨v, _, e⟩ => by rw [e]; exact wipe1) (fun x W' σ2 hm g ⟨v, r, e⟩ => by rw [e]; exact ht x v W' hm g r) (fun x W' σ2 hm hp g ⟨v, r, e⟩ => by rw [e]; exact hk x v W' hm hp g r)
    (fun x W' σ2 hm hp g ⟨v, r, e⟩ => by rw [e]; exact he x v W' hm hp g r) (fun x σ2 W' W'' ⟨v, r, e⟩ g => ⟨v, rep_s g r, e⟩) hl
end
section
variable {α γ β κ : Type} [Py α] [Py β] [Py γ] [DecidableEq κ] [PyKey κ] {K : Fg} {W : Wd} {σ : SS} {ε : Ef} {te tk tv : TE} {tt : TT} {wi : TI}
theorem em_dcP {i j : Nat} {xs : List (α × γ)} {p : α × γ → Bool} {f : α × γ → κ × β} (hi : EvI ε K wi σ W xs) (ht : ∀ x v u W', x ∈ xs → Stp ε W W' → rep K W'.B v x.1 → rep K W'.B u x.2 → EvT ε tt (((wipe σ [i, j]).set i (some v)).set j (some u)) W' (p x))
    (hk : ∀ x v u W', x ∈ xs → p x = true → Stp ε W W' → rep K W'.B v x.1 → rep K W'.B u x.2 → EvP ε tk (((wipe σ [i, j]).set i (some v)).set j (some u)) W' (fun u _ => u = kV (PyKey.key (f x).1)))
    (he : ∀ x v u W', x ∈ xs → p x = true → Stp ε W W' → rep K W'.B v x.1 → rep K W'.B u x.2 → EvR ε K tv (((wipe σ [i, j]).set i (some v)).set j (some u)) W' (f x).2) (hl : xs.length < 100000) : EvM ε K (tDc wi (gPair K i j) tt tk tv [i, j]) σ W (kfill ((xs.filter p).map f)) :=
  em_dc (P := PP K i j) hi gt_pair (fun x σ2 W' ⟨v, u, _, _, e⟩ => by rw [e]; exact wipe2) (fun x W' σ2 hm g ⟨v, u, r, r', e⟩ => by rw [e]; exact ht x v u W' hm g r r') (fun x W' σ2 hm hp g ⟨v, u, r, r', e⟩ => by rw [e]; exact hk x v u W' hm hp g r r')
    (fun x W' σ2 hm hp g ⟨v, u, r, r', e⟩ => by rw [e]; exact he x v u W' hm hp g r r') (fun x σ2 W' W'' ⟨v, u, r, r', e⟩ g => ⟨v, u, rep_s g r, rep_s g r', e⟩) hl
end
/-! ### a comprehension over a dict that is locked meanwhile -/
section
variable {κ α : Type} [DecidableEq κ] [PyKey κ] [Py α] {K : Fg} {W : Wd} {σ : SS} {t : TE}
/-- locked, and free again behind it -/
theorem em_lock {d : Addr} {ks : List (Key × V)} {kv : List (κ × α)} (hd : W.H d = some (.dK ks)) (h : ∀ WL, Lk W WL d ks → WL.B d = W.B d → EvM pur K t σ WL kv) : EvM pur K (tLockE t) σ W kv := fun W1 g1' Q k => by
  have g1 := g1'.pure
  have hd1 := g1.h _ _ hd
  have hnt : Nt W.H d := .k hd
  refine ⟨d, _, hd1, trivial, fun od => ?_⟩
  have sub : Ext W1.B (upd W1.H d (.frz od (.dK ks))) := B.Ext.trans W1.sub (B.Ext.lock hd1)
  let WL : Wd := ⟨W1.B, upd W1.H d (.frz od (.dK ks)), sub⟩
  have off : ∀ a, a ≠ d → WL.H a = W1.H a := fun a q => upd_ne q
  refine h WL ⟨g1.b, ⟨od, upd_same⟩, fun a o q e => (off a q).trans (g1.h a o e)⟩ (g1.m d hnt) WL (.start trivial) _ fun p W2 g2' f m => ?_
  have g2 := g2'.pure
  have h2 : W2.H d = some (.frz od (.dK ks)) := g2.h _ _ upd_same
  refine ⟨h2, ?_⟩
  have hB : W2.B d = W1.B d := g2.m d ⟨.frz od (.dK ks), upd_same, fun _ z => by cases z⟩
  have pd : p ≠ d := fun z => by
    have f' : upd W1.H d (.frz od (.dK ks)) p = none := f
    rw [z, upd_same] at f'; cases f'
  have sub3 : Ext W2.B (upd W2.H d (.dK ks)) := fun a o e => by
    by_cases q : a = d
    · subst q
      rw [hB] at e
      rcases W1.sub a o e with h1 | ⟨⟨k', rfl⟩, ob, h1⟩
      · rw [hd1] at h1; cases h1; exact .inl upd_same
      · rw [hd1] at h1; cases h1
    · rw [upd_ne q]; exact W2.sub a o e
  have gr : Grow W1 ⟨W2.B, upd W2.H d (.dK ks), sub3⟩ := .mk g2.b (fun a o e => by
    show upd W2.H d (.dK ks) a = some o
    by_cases q : a = d
    · subst q; rw [hd1] at e; cases e; exact upd_same
    · rw [upd_ne q]; exact g2.h a o ((off a q).trans e)) fun a ha => g2.m a (by
      by_cases q : a = d
      · rw [q]; exact ⟨_, upd_same, fun _ z => by cases z⟩
      · obtain ⟨u, e, hu⟩ := ha
        exact ⟨u, (off a q).trans e, hu⟩)
  obtain ⟨ks2, e2, r2⟩ := m.ex
  exact k p _ (.of gr) ((off p pd).symm.trans f) ⟨m.b, ks2, (upd_ne pd).trans e2, r2⟩
end
end B
/-! jars, plainly: what is in them and what they lost, by the program's own steps and by hand -/
namespace B
open PySem L2
abbrev Ins := List (Str × Int)
abbrev Lots := List (Int × Int)
section
variable {κ α : Type} [DecidableEq κ]
theorem keys_put_old {kv : List (κ × α)} {k : κ} {v : α} (h : k ∈ kv.map (·.1)) : (kput kv k v).map (·.1) = kv.map (·.1) := by
  unfold kput
  rw [if_pos (by obtain ⟨q, h1, h2⟩ := List.mem_map.mp h; exact List.any_eq_true.mpr ⟨q, h1, by simp [h2]⟩), List.map_map]
  refine List.map_congr_left fun q _ => ?_
  show (if q.1 = k then (q.1, v) else q).1 = q.1
  split <;> rfl
theorem kput_twice {kv : List (κ × α)} {k : κ} {v w : α} : kput (kput kv k v) k w = kput kv k w := by
  by_cases h : k ∈ kv.map (·.1)
  · have h' : k ∈ (kput kv k v).map (·.1) := by rw [keys_put_old h]; exact h
    have e : ∀ {l : List (κ × α)} {u : α}, k ∈ l.map (·.1) → kput l k u = l.map (fun q => if q.1 = k then (q.1, u) else q) := fun {l u} hl => by
      unfold kput
      rw [if_pos (by obtain ⟨q, h1, h2⟩ := List.mem_map.mp hl; exact List.any_eq_true.mpr ⟨q, h1, by simp [h2]⟩)]
    rw [e h', e h, e h, List.map_map]
    refine List.map_congr_left fun q _ => ?_
    show (if (if q.1 = k then (q.1, v) else q).1 = k then _ else _) = _
    by_cases z : q.1 = k <;> simp [z]
  · rw [kput_new h, kput_new h]
    have h' : k ∈ (kv ++ [(k, v)]).map (·.1) := by simp
    unfold kput
    rw [if_pos (by obtain ⟨q, h1, h2⟩ := List.mem_map.mp h'; exact List.any_eq_true.mpr ⟨q, h1, by simp [h2]⟩), List.map_append]
    have : kv.map (fun q => if q.1 = k then (q.1, w) else q) = kv := by
      conv => rhs; rw [← List.map_id kv]
      refine List.map_congr_left fun q hq => ?_
      have : ¬ q.1 = k := fun z => h (List.mem_map.mpr ⟨q, hq, z⟩)
      simp [this]
    rw [this]
    simp
theorem klook_put_same {kv : List (κ × α)} {k : κ} {v : α} : klook (kput kv k v) k = some v := by rw [klook_put]; simp
theorem mem_keys_put {kv : List (κ × α)} {k : κ} {v : α} : k ∈ (kput kv k v).map (·.1) := by
  cases e : klook (kput kv k v) k with
  | some x => exact List.mem_map.mpr ⟨_, klook_mem e, rfl⟩
  | none => rw [klook_put_same] at e; cases e
end
/-- m of each taken off -/
def off (ins : Ins) (m : Int) : Ins := (ins.filter fun q => decide (q.2 > m)).map fun q => (q.1, q.2 - m)
def addLot (lost : Lots) (size t : Int) : Lots := kput lost size ((klook lost size).getD 0 + t)
def Fits (n : Nat) (ins : Ins) (name : Str) : Prop := name ∈ ins.map (·.1) ∨ ins.length < n
instance (n : Nat) (ins : Ins) (name : Str) : Decidable (Fits n ins name) := inferInstanceAs (Decidable (_ ∨ _))
/-- one letter more, by hand -/
def one (n : Nat) (name : Str) (s : Ins × Lots) : Ins × Lots :=
  if Fits n s.1 name then (kput s.1 name ((klook s.1 name).getD 0 + 1), s.2) else (off s.1 1, addLot s.2 (n + 1) 1)
def least : Ins → Int
  | [] => 1
  | [q] => q.2
  | q :: r => min q.2 (least r)
theorem least_le : ∀ (ins : Ins) (q), q ∈ ins → least ins ≤ q.2
  | [q], p, h => by rw [List.mem_singleton.mp h]; exact Int.le_refl _
  | q :: r :: s, p, h => by
    show min q.2 (least (r :: s)) ≤ p.2
    rcases List.mem_cons.mp h with rfl | h
    · exact Int.min_le_left _ _
    · exact Int.le_trans (Int.min_le_right _ _) (least_le (r :: s) p h)
theorem least_mem : ∀ (ins : Ins), ins ≠ [] → ∃ q ∈ ins, q.2 = least ins
  | [], h => absurd rfl h
  | [q], _ => ⟨q, by simp, rfl⟩
  | q :: r :: s, _ => by
    obtain ⟨p, hp, e⟩ := least_mem (r :: s) (by simp)
    show ∃ z ∈ q :: r :: s, z.2 = min q.2 (least (r :: s))
    rcases Int.le_total q.2 (least (r :: s)) with h | h
    · exact ⟨q, by simp, (Int.min_eq_left h).symm⟩
    · exact ⟨p, List.mem_cons_of_mem _ hp, by rw [Int.min_eq_right h]; exact e⟩
structure InsOk (names : List Str) (n : Nat) (ins : Ins) : Prop where
  nd : (ins.map (·.1)).Nodup
  pos : ∀ q ∈ ins, 0 < q.2
  mem : ∀ q ∈ ins, q.1 ∈ names
  len : ins.length ≤ n
  n1 : 1 ≤ n
theorem InsOk.least_pos {names : List Str} {n : Nat} {ins : Ins} (h : InsOk names n ins) : 0 < least ins := by
  by_cases e : ins = []
  · rw [e]; decide
  · obtain ⟨q, hq, z⟩ := least_mem ins e
    rw [← z]; exact h.pos q hq
theorem off_len (ins : Ins) (m : Int) : (off ins m).length ≤ ins.length := by
  unfold off
  rw [List.length_map]; exact List.length_filter_le _ _
theorem off_keys (ins : Ins) (m : Int) : (off ins m).map (·.1) = (ins.filter fun q => decide (q.2 > m)).map (·.1) := by
  unfold off
  rw [List.map_map]; rfl
theorem off_ok {names : List Str} {n : Nat} {ins : Ins} (h : InsOk names n ins) (m : Int) : InsOk names n (off ins m) where
  nd := by rw [off_keys]; exact List.Nodup.sublist ((List.filter_sublist).map _) h.nd
  pos := fun q hq => by
    obtain ⟨p, hp, rfl⟩ := List.mem_map.mp hq
    have := of_decide_eq_true (List.mem_filter.mp hp).2
    show 0 < p.2 - m; omega
  mem := fun q hq => by
    obtain ⟨p, hp, rfl⟩ := List.mem_map.mp hq
    exact h.mem p (List.mem_filter.mp hp).1
  len := Nat.le_trans (off_len ins m) h.len
  n1 := h.n1
theorem put_ok {names : List Str} {n : Nat} {ins : Ins} {name : Str} {v : Int} (h : InsOk names n ins) (hn : name ∈ names) (hv : 0 < v) (hf : Fits n ins name) : InsOk names n (kput ins name v) where
  nd := kput_keys_nodup h.nd
  pos := fun q hq => by
    rcases kput_mem hq with z | rfl
    · exact h.pos q z
    · exact hv
  mem := fun q hq => by
    rcases kput_mem hq with z | rfl
    · exact h.mem q z
    · exact hn
  len := by
    rcases hf with z | z
    · have := congrArg List.length (keys_put_old (v := v) z)
      rw [List.length_map, List.length_map] at this
      rw [this]; exact h.len
    · have := kput_len ins name v
      omega
  n1 := h.n1
theorem look_pos {names : List Str} {n : Nat} {ins : Ins} {name : Str} (h : InsOk names n ins) : 0 ≤ (klook ins name).getD 0 := by
  cases e : klook ins name with
  | none => exact Int.le_refl _
  | some v => exact Int.le_of_lt (h.pos _ (klook_mem e))
theorem one_ok {names : List Str} {n : Nat} {name : Str} {s : Ins × Lots} (h : InsOk names n s.1) (hn : name ∈ names) : InsOk names n (one n name s).1 := by
  unfold one
  split
  · rename_i f
    have := look_pos (name := name) h
    exact put_ok h hn (by omega) f
  · exact off_ok h 1
theorem off_off (ins : Ins) {a b : Int} (hb : 0 ≤ b) : off (off ins a) b = off ins (a + b) := by
  unfold off
  rw [List.filter_map, List.map_map, List.filter_filter]
  have e : (ins.filter fun q => ((fun q : Str × Int => decide (q.2 > b)) ∘ fun q => (q.1, q.2 - a)) q && decide (q.2 > a)) = ins.filter fun q => decide (q.2 > a + b) := by
    refine List.filter_congr fun q _ => ?_
    show (decide (q.2 - a > b) && decide (q.2 > a)) = decide (q.2 > a + b)
    rw [← Bool.decide_and]
    exact decide_eq_decide.mpr ⟨fun h => by omega, fun h => by omega⟩
  rw [e]
  refine List.map_congr_left fun q _ => ?_
  show (q.1, q.2 - a - b) = (q.1, q.2 - (a + b))
  rw [Int.sub_sub]
theorem addLot_twice (lost : Lots) (size a b : Int) : addLot (addLot lost size a) size b = addLot lost size (a + b) := by
  unfold addLot
  rw [kput_twice, klook_put_same]
  show kput lost size (_ + a + b) = _
  rw [Int.add_assoc]
/-- j at once, or one by one: while all stay in -/
theorem one_many {names : List Str} {n : Nat} {name : Str} {ins : Ins} {lost : Lots} (h : InsOk names n ins) (hf : ¬ Fits n ins name) : ∀ j : Nat, 1 ≤ j → (j : Int) ≤ least ins → Nat.repeat (one n name) j (ins, lost) = (off ins j, addLot lost (n + 1) j)
  | 0, h0, _ => absurd h0 (by decide)
  | 1, _, _ => by
    show one n name (ins, lost) = _
    unfold one
    rw [if_neg hf]; rfl
  | j + 2, _, hl => by
    have ih := one_many (lost := lost) h hf (j + 1) (by omega) (by omega)
    show one n name (Nat.repeat (one n name) (j + 1) (ins, lost)) = _
    rw [ih]
    have all : (ins.filter fun q => decide (q.2 > ((j + 1 : Nat) : Int))) = ins := List.filter_eq_self.mpr fun q hq => by
      have := least_le ins q hq
      exact decide_eq_true (by omega)
    have hf' : ¬ Fits n (off ins ((j + 1 : Nat) : Int)) name := by
      intro z
      rcases z with z | z
      · rw [off_keys, all] at z; exact hf (.inl z)
      · unfold off at z
        rw [List.length_map, all] at z; exact hf (.inr z)
    unfold one
    rw [if_neg hf']
    show (off (off ins _) 1, addLot (addLot lost _ _) _ 1) = _
    rw [off_off ins (by decide), addLot_twice]
    congr 2
theorem repeat_add {α : Type} (f : α → α) : ∀ (a b : Nat) (x : α), Nat.repeat f (a + b) x = Nat.repeat f b (Nat.repeat f a x)
  | a, 0, x => rfl
  | a, b + 1, x => by
    show f (Nat.repeat f (a + b) x) = f (Nat.repeat f b (Nat.repeat f a x))
    rw [repeat_add f a b x]
/-- fitting, t at once -/
theorem one_fit {n : Nat} {name : Str} {ins : Ins} {lost : Lots} (hf : Fits n ins name) : ∀ t : Nat, 1 ≤ t → Nat.repeat (one n name) t (ins, lost) = (kput ins name ((klook ins name).getD 0 + t), lost)
  | 0, h => absurd h (by decide)
  | 1, _ => by
    show one n name (ins, lost) = _
    unfold one
    rw [if_pos hf]; rfl
  | t + 2, _ => by
    show one n name (Nat.repeat (one n name) (t + 1) (ins, lost)) = _
    rw [one_fit hf (t + 1) (by omega)]
    unfold one
    rw [if_pos (.inl mem_keys_put)]
    show (kput (kput ins name _) name _, lost) = _
    rw [kput_twice, klook_put_same]
    show (kput ins name ((klook ins name).getD 0 + ((t + 1 : Nat) : Int) + 1), lost) = _
    rw [show (klook ins name).getD 0 + ((t + 1 : Nat) : Int) + 1 = (klook ins name).getD 0 + ((t + 2 : Nat) : Int) by omega]
/-- what the program's loop does in a turn is so many by hand -/
theorem turn_fit {n : Nat} {name : Str} {ins : Ins} {lost : Lots} {left : Nat} (hf : Fits n ins name) (h : 1 ≤ left) : Nat.repeat (one n name) left (ins, lost) = (kput ins name ((klook ins name).getD 0 + left), lost) := one_fit hf left h
theorem turn_off {names : List Str} {n : Nat} {name : Str} {ins : Ins} {lost : Lots} {left m : Nat} (h : InsOk names n ins) (hf : ¬ Fits n ins name) (h1 : 1 ≤ m) (hm : (m : Int) ≤ least ins) (hl : m ≤ left) :
    Nat.repeat (one n name) left (ins, lost) = Nat.repeat (one n name) (left - m) (off ins m, addLot lost (n + 1) m) := by
  rw [← one_many h hf m h1 hm, ← repeat_add]
  congr 1
  omega
end B
/-! jars, plainly: in the order of keys; how great all is -/
namespace B
open PySem L2
open PySem.W (Datum)
section
variable {κ : Type} [DecidableEq κ]
/-- the pairs in the order of keys ks -/
def byKeys (kv : List (κ × Int)) (ks : List κ) : List (κ × Int) := ks.map fun k => (k, (klook kv k).getD 0)
theorem byKeys_keys (kv : List (κ × Int)) (ks : List κ) : (byKeys kv ks).map (·.1) = ks := by
  unfold byKeys
  rw [List.map_map]
  exact List.map_id ks
theorem byKeys_self {kv : List (κ × Int)} (n : (kv.map (·.1)).Nodup) : byKeys kv (kv.map (·.1)) = kv := by
  unfold byKeys
  rw [List.map_map]
  conv => rhs; rw [← List.map_id kv]
  refine List.map_congr_left fun q hq => ?_
  show (q.1, (klook kv q.1).getD 0) = q
  rw [klook_of_mem (v := q.2) n hq]; rfl
theorem byKeys_perm {kv : List (κ × Int)} {ks : List κ} (n : (kv.map (·.1)).Nodup) (h : ks.Perm (kv.map (·.1))) : (byKeys kv ks).Perm kv := by
  have := h.map fun k => (k, (klook kv k).getD 0)
  rw [show (kv.map (·.1)).map (fun k => (k, (klook kv k).getD 0)) = kv from byKeys_self n] at this
  exact this
theorem mem_key_eq {kv : List (κ × Int)} (n : (kv.map (·.1)).Nodup) {a b : κ × Int} (ha : a ∈ kv) (hb : b ∈ kv) (e : a.1 = b.1) : a = b := by
  have h1 := klook_of_mem (v := a.2) n ha
  have h2 := klook_of_mem (v := b.2) n hb
  rw [e, h2] at h1
  exact Prod.ext e (Option.some.inj h1).symm
/-- two lists of the same pairs, with unlike keys, both in the order of the keys -/
theorem pairs_uniq {le : κ → κ → Bool} (anti : ∀ a b, le a b = true → le b a = true → a = b) {kv xs ys : List (κ × Int)} (n : (kv.map (·.1)).Nodup) (h1 : xs.Perm kv) (h2 : ys.Perm kv) (o1 : xs.Pairwise fun a b => le a.1 b.1 = true) (o2 : ys.Pairwise fun a b => le a.1 b.1 = true) : xs = ys :=
  (h1.trans h2.symm).eq_of_pairwise (fun a b ha hb h h' => mem_key_eq n (h1.mem_iff.mp ha) (h2.mem_iff.mp hb) (anti _ _ h h')) o1 o2
end
def srt (kv : Ins) : Ins := byKeys kv (sortS (kv.map (·.1)))
theorem srt_perm {kv : Ins} (n : (kv.map (·.1)).Nodup) : (srt kv).Perm kv := byKeys_perm n (sortS_perm _)
theorem srt_pw (kv : Ins) : (srt kv).Pairwise fun a b => sle a.1 b.1 = true := by
  have := sortS_pw (kv.map (·.1))
  unfold srt byKeys
  rw [List.pairwise_map]
  exact this
theorem srt_uniq {kv ys : Ins} (n : (kv.map (·.1)).Nodup) (h : ys.Perm kv) (o : ys.Pairwise fun a b => sle a.1 b.1 = true) : ys = srt kv := pairs_uniq (fun _ _ => sle_anti) n h (srt_perm n) o (srt_pw kv)
def sortI (xs : List Int) : List Int := xs.mergeSort fun a b => decide (a ≤ b)
theorem sortI_perm (xs : List Int) : (sortI xs).Perm xs := List.mergeSort_perm _ _
theorem sortI_pw (xs : List Int) : (sortI xs).Pairwise (· ≤ ·) := by
  have := List.pairwise_mergeSort (le := fun a b : Int => decide (a ≤ b)) (fun a b c h h' => by simp only [decide_eq_true_eq] at *; omega) (fun a b => by simp only [Bool.or_eq_true, decide_eq_true_eq]; omega) xs
  exact this.imp fun h => of_decide_eq_true h
def srtI (kv : Lots) : Lots := byKeys kv (sortI (kv.map (·.1)))
theorem srtI_perm {kv : Lots} (n : (kv.map (·.1)).Nodup) : (srtI kv).Perm kv := byKeys_perm n (sortI_perm _)
theorem srtI_pw (kv : Lots) : (srtI kv).Pairwise fun a b => a.1 ≤ b.1 := by
  have := sortI_pw (kv.map (·.1))
  unfold srtI byKeys
  rw [List.pairwise_map]
  exact this
theorem srtI_uniq {kv ys : Lots} (n : (kv.map (·.1)).Nodup) (h : ys.Perm kv) (o : ys.Pairwise fun a b => a.1 ≤ b.1) : ys = srtI kv :=
  pairs_uniq (le := fun a b => decide (a ≤ b)) (fun a b h h' => by simp only [decide_eq_true_eq] at *; omega) n h (srtI_perm n) (o.imp fun h => decide_eq_true h) ((srtI_pw kv).imp fun h => decide_eq_true h)
/-- what was lost: sizes above n, nine at most, each once -/
structure LotsOk (n : Nat) (lost : Lots) : Prop where
  nd : (lost.map (·.1)).Nodup
  ok : ∀ q ∈ lost, (n : Int) < q.1 ∧ q.1 ≤ 9 ∧ 0 < q.2
theorem LotsOk.len {n : Nat} {lost : Lots} (h : LotsOk n lost) : lost.length ≤ 10 := by
  have := nodup_le (l := lost.map (·.1)) (m := rng 0 10) h.nd fun x hx => by
    obtain ⟨q, hq, rfl⟩ := List.mem_map.mp hx
    have := h.ok q hq
    exact rng_mem.mpr ⟨by omega, by omega⟩
  rw [List.length_map, rng_len] at this
  exact this
theorem lot_ok {n : Nat} {lost : Lots} {t : Int} (h : LotsOk n lost) (hn : n ≤ 8) (ht : 0 < t) : LotsOk n (addLot lost (n + 1) t) := by
  have h0 : 0 ≤ (klook lost ((n : Int) + 1)).getD 0 := by
    cases e : klook lost ((n : Int) + 1) with
    | none => exact Int.le_refl _
    | some v => exact Int.le_of_lt (h.ok _ (klook_mem e)).2.2
  refine ⟨kput_keys_nodup h.nd, fun q hq => ?_⟩
  rcases kput_mem hq with z | rfl
  · exact h.ok q z
  · exact ⟨by show (n : Int) < n + 1; omega, by show (n : Int) + 1 ≤ 9; omega, by show 0 < _ + t; omega⟩
theorem one_lots {n : Nat} {name : Str} {s : Ins × Lots} (h : LotsOk n s.2) (hn : n ≤ 8) : LotsOk n (one n name s).2 := by
  unfold one
  split
  · exact h
  · exact lot_ok h hn (by decide)
/-- nothing is above b -/
structure Small (b : Int) (s : Ins × Lots) : Prop where
  i : ∀ q ∈ s.1, q.2 ≤ b
  l : ∀ q ∈ s.2, q.2 ≤ b
theorem one_small {n : Nat} {name : Str} {b : Int} {s : Ins × Lots} (h : Small b s) (hb : 0 ≤ b) : Small (b + 1) (one n name s) := by
  unfold one
  split
  · refine ⟨fun q hq => ?_, fun q hq => Int.le_trans (h.l q hq) (by omega)⟩
    rcases kput_mem hq with z | rfl
    · exact Int.le_trans (h.i q z) (by omega)
    · show _ + 1 ≤ b + 1
      cases e : klook s.1 name with
      | none => show (0 : Int) + 1 ≤ b + 1; omega
      | some v => have := h.i _ (klook_mem e); show v + 1 ≤ b + 1; have : v ≤ b := this; omega
  · refine ⟨fun q hq => ?_, fun q hq => ?_⟩
    · obtain ⟨p, hp, rfl⟩ := List.mem_map.mp hq
      have := h.i p (List.mem_filter.mp hp).1
      show p.2 - 1 ≤ b + 1; omega
    · rcases kput_mem hq with z | rfl
      · exact Int.le_trans (h.l q z) (by omega)
      · show _ + 1 ≤ b + 1
        cases e : klook s.2 ((n : Int) + 1) with
        | none => show (0 : Int) + 1 ≤ b + 1; omega
        | some v => have := h.l _ (klook_mem e); show v + 1 ≤ b + 1; have : v ≤ b := this; omega
/-- all that is kept of jars -/
structure JOk (names : List Str) (n : Nat) (b : Int) (s : Ins × Lots) : Prop where
  i : InsOk names n s.1
  l : LotsOk n s.2
  s : Small b s
  n8 : n ≤ 8
  b0 : 0 ≤ b
theorem one_jok {names : List Str} {n : Nat} {b : Int} {name : Str} {s : Ins × Lots} (h : JOk names n b s) (hn : name ∈ names) : JOk names n (b + 1) (one n name s) :=
  ⟨one_ok h.i hn, one_lots h.l h.n8, one_small h.s h.b0, h.n8, by have := h.b0; omega⟩
theorem many_jok {names : List Str} {n : Nat} {b : Int} {name : Str} {s : Ins × Lots} (h : JOk names n b s) (hn : name ∈ names) : ∀ t : Nat, JOk names n (b + t) (Nat.repeat (one n name) t s)
  | 0 => by rw [show b + ((0 : Nat) : Int) = b by omega]; exact h
  | t + 1 => by
    have := one_jok (many_jok h hn t) hn
    rw [show b + (t : Int) + 1 = b + ((t + 1 : Nat) : Int) by omega] at this
    exact this
theorem JOk.up {names : List Str} {n : Nat} {b c : Int} {s : Ins × Lots} (h : JOk names n b s) (hc : b ≤ c) : JOk names n c s := ⟨h.i, h.l, ⟨fun q hq => Int.le_trans (h.s.i q hq) hc, fun q hq => Int.le_trans (h.s.l q hq) hc⟩, h.n8, by have := h.b0; omega⟩
theorem fresh_jok (names : List Str) {n : Nat} (h1 : 1 ≤ n) (h8 : n ≤ 8) : JOk names n 0 ([], []) :=
  ⟨⟨.nil, fun _ h => by simp at h, fun _ h => by simp at h, Nat.zero_le _, h1⟩, ⟨.nil, fun _ h => by simp at h⟩, ⟨fun _ h => by simp at h, fun _ h => by simp at h⟩, h8, Int.le_refl _⟩
/-- sums of what is small -/
theorem sum_small : ∀ (xs : List Int) (b : Int), (∀ x ∈ xs, 0 ≤ x ∧ x ≤ b) → 0 ≤ xs.sum ∧ xs.sum ≤ xs.length * b
  | [], b, _ => by simp
  | x :: xs, b, h => by
    have h1 := h x List.mem_cons_self
    have h2 := sum_small xs b fun y hy => h y (List.mem_cons_of_mem _ hy)
    rw [List.sum_cons, List.length_cons]
    refine ⟨by omega, ?_⟩
    have : ((xs.length + 1 : Nat) : Int) * b = xs.length * b + b := by
      rw [Int.natCast_add, Int.add_mul]; simp
    omega
theorem log_small {i : Int} (h0 : 0 ≤ i) (h : i ≤ 1000000000000) : i.natAbs.log2 < 1920 := by
  have : i.natAbs < 2 ^ 50 := by omega
  by_cases z : i.natAbs = 0
  · rw [z]; decide
  · have := (Nat.log2_lt z).mpr this
    omega
end B
/-! max(d.values()) -/
namespace B
open PySem L2 PySem.Spec PyProof.Rows
section
variable {X : Cx}
/-- max(d.values()) -/
def rMaxV : List V → Hp → VK → Prop := fun vs H Q => ∃ (v a : Addr) (kvs : List (Key × V)) (is : List Int), vs = [V.ref v] ∧ H v = some (viewHO v a) ∧ H a = some (.dK kvs) ∧ kvs.map (·.2) = is.map V.int ∧ 0 < is.length ∧ ∀ m, m ∈ is → (∀ y ∈ is, y ≤ m) → Q (.int m) H
theorem cr_maxV (hc : X.calm = true) : CallR X (.builtin "max") rMaxV := by
  intro pins s σ H xs us Q I r h
  obtain ⟨v, a, kvs, is, rfl, hv, ha, hi, hne, q⟩ := h
  obtain rfl := Vals.ref1 r
  obtain ⟨vs, ep, e, dat, hl, _, hval⟩ := view_at I hv ha hi
  refine call_max_walkS ?_
  obtain ⟨oI, St, hit, W, st⟩ := (PySem.W.kdl_values (prog := X.prog) (w := X.w) (knd := mixKind X.prog X.w) (d := a) (r := v) (kvs := vs) (ep := ep)).iter X.A.in1 s (I.ok.hd hc) ⟨⟨_, e, rfl, rfl⟩, dat⟩
  have hv2 : ∀ (i : Nat) (u : Value), (∃ k, vs[i]? = some (k, u)) → ∃ t, u = Value.int (is.getD i 0) t := fun i u hu => by
    obtain ⟨x, t, h1, h2⟩ := hval i u hu
    exact ⟨t, by rw [h2]; show Value.int x t = Value.int (is.getD i 0) t; rw [List.getD_eq_getElem?_getD, h1]; rfl⟩
  refine hit _ _ ⟨s.heap.objs.size, _, _, _, vs.length, _, _, fun i j => decide (is.getD i 0 > is.getD j 0), rfl, W.toS, st, fun b hb => ?_, by rw [hl]; exact hne, CmpOf.ints_gt (fun i => is.getD i 0) hv2, fun u s' hu hm => ?_⟩
  · show b < (s.heap.push oI).objs.size
    rw [Heap.size_push]
    rcases List.mem_cons.mp hb with e' | hb
    · rw [e']; exact Nat.lt_succ_self _
    · rw [List.mem_singleton.mp hb]; exact Nat.lt_succ_of_lt (by obtain ⟨ob, es, ho, _⟩ := id dat; exact Heap.lt_size ho)
  · obtain ⟨t, rfl⟩ := hv2 _ u hu
    have hk : ∀ b o, s.heap.get? b = some o → s'.heap.get? b = some o := fun b o e =>
      hm.heap b o (fun hI => absurd (Heap.lt_size e) (by rw [List.mem_singleton.mp hI]; exact Nat.lt_irrefl _)) (Heap.get?_push_of_some _ e)
    have hb := argBest_gt (fun i => is.getD i 0) (vs.length - 1)
    have hlt : argBest (fun i j => decide (is.getD i 0 > is.getD j 0)) (vs.length - 1) < is.length := by
      have := hb.1
      omega
    rw [Moved.eq_with hm]
    refine ⟨.int _, H, I.kept hk, ⟨t, rfl⟩, q _ ?_ fun y hy => ?_⟩
    · rw [List.getD_eq_getElem?_getD, List.getElem?_eq_getElem hlt, Option.getD_some]; exact List.getElem_mem hlt
    · obtain ⟨i, hi', rfl⟩ := List.getElem_of_mem hy
      have := hb.2 i (by omega)
      simpa [List.getD_eq_getElem?_getD, List.getElem?_eq_getElem hi'] using this
end
section
variable {K : Fg} {W : Wd} {ε : Ef} {σ : SS} {te : TE}
theorem ev_maxV {κ : Type} [PyKey κ] {d : Dict κ Int} {i : Int} (h : EvD ε K te σ W d) (h1 : i ∈ d.kv.map (·.2)) (h2 : ∀ y ∈ d.kv.map (·.2), y ≤ i) : EvR ε K (tCB rMaxV (tCons (tVals te) tNil)) σ W i := fun W1 g1 Q k => h W1 g1 _ fun v W2 g2 ⟨a, ks, e, hB, hH, r⟩ =>
  ⟨a, ks, e, hH, fun w hw => by
    have ne : a ≠ w := fun z => by rw [z, hw] at hH; cases hH
    refine ⟨w, a, ks, d.kv.map (·.2), rfl, upd_same, (upd_ne ne).trans hH, kreps_ints r, List.length_pos_of_mem h1, fun m' h3 h4 => ?_⟩
    have : m' = i := Int.le_antisymm (h2 m' h3) (h4 i h1)
    rw [this]
    exact k _ (W2.put w _ (W2.free hw)) (g2.and (W2.grow_put hw)) rfl⟩
end
end B
/-! sorted(d, reverse=True), keys numbers -/
namespace B
open PySem L2 PySem.Spec PyProof.Rows
section
variable {X : Cx}
def rSortedDRI : List V → List V → Hp → VK → Prop := fun vs zs H Q => ∃ (a : Addr) (kvs : List (Key × V)) (is : List Int), vs = [V.ref a] ∧ zs = [.bl true] ∧ H a = some (.dK kvs) ∧ kvs.map (·.1) = is.map Sum.inl ∧
  ∀ (ns' : List Int) (p : Addr), ns'.Perm is → OrdB true ns' → H p = none → Q (.ref p) (upd H p (.lst (ns'.map V.int)))
theorem cr_sortedDRI (hc : X.calm = true) : CallRK X (.builtin "sorted") [Str.ofString "reverse"] rSortedDRI := by
  intro pins s σ H xs zs us ws Q I r rz h
  obtain ⟨a, kvs, is, rfl, rfl, ha, hi, q⟩ := h
  obtain rfl := Vals.ref1 r
  obtain ⟨w1, rfl, e1⟩ := vals1 rz
  obtain rfl : w1 = Value.bool true := e1
  obtain ⟨hz, hsys, vs, rel, dof⟩ := dk_of I.hok ha
  obtain ⟨ep, dat⟩ := dof.dictAt
  have hl : vs.length = is.length := by
    have e1 := congrArg List.length hi
    rw [List.length_map, List.length_map] at e1
    rw [← e1]
    exact (KV.length rel).symm
  have hval : ∀ (i : Nat) (u : Value), (∃ k x, vs[i]? = some (k, x) ∧ (mixKind X.prog X.w).is k u = true) → ∃ x t, is[i]? = some x ∧ u = Value.int x t := fun i u ⟨k, x, h1, h2⟩ => by
    obtain ⟨y, h3, _⟩ := KV.at' rel h1
    have e1 : (kvs.map (·.1))[i]? = some k := by rw [List.getElem?_map, h3] <;> rfl
    rw [hi, List.getElem?_map] at e1
    obtain ⟨j, hj, e2⟩ := Option.map_eq_some_iff.mp e1
    subst e2
    have h4 : Value.isInt j u = true := h2
    have h5 : ∃ t, u = Value.int j t := by
      unfold Value.isInt at h4
      split at h4
      · have := of_decide_eq_true h4
        subst this
        exact ⟨_, rfl⟩
      · cases h4
    obtain ⟨t, e3⟩ := h5
    exact ⟨j, t, hj, e3⟩
  have hz2 : vs.length ≤ sizeLine := by
    rw [hl]
    have := congrArg List.length hi
    rw [List.length_map, List.length_map] at this
    rw [← this]; exact hz
  refine call_function_entry_kw kind_sorted plain_sorted entry_sorted (PyProof.Rows.args_sorted_rev _ _) ?_
  unfold Builtin.«sorted»
  refine wpAny_bind (m := checkCount "sorted" 1 1 _) (wpAny_pure ?_)
  refine wpAny_bind (PySem.W.kdu_collect (A := X.A.in1) (PySem.W.kdl_dict (prog := X.prog) (w := X.w) (knd := mixKind X.prog X.w) (d := a) (kvs := vs) (ep := ep) hsys) (I.ok.hd hc) dat hz2 fun h' tk acc hk hacc => ?_)
  have hal : acc.toList.length = is.length := by rw [Array.length_toList, hacc.1, hl]
  have hS : IntsAre acc.toList is := ints_each hal fun j u e => hval j u (hacc.2 j u (by rw [← Array.getElem?_toList]; exact e))
  have I1 : Inv X pins σ H { s with heap := h', toks := tk } := I.kept hk
  refine wpAny_bind (wpAny_newList ?_ (by rw [hal, ← hl]; exact hz2))
  have hoL : (h'.push (seqObj "list" acc.toList.toArray 0)).get? h'.objs.size = some (seqObj "list" acc.toList.toArray 0) := Heap.get?_push_size _ rfl
  show wpAny _ _ _ _ _ { s with heap := h'.push (seqObj "list" acc.toList.toArray 0), toks := tk }
  refine wpAny_bind (wpAny_holding (wpAny_call_entry_kw slot_list_sort ⟨_, hoL, rfl⟩ entry_list_sort ?_ (PyProof.Rows.args_list_sort_rev _ _)))
  refine SrtR.list_sort_ordR (b := true) SrtO.swo_int hoL (by rw [hal, ← hl]; exact hz2) (fun h2 => SrtO.ints_sortable hS h2) fun out h1 h2 => ⟨_, rfl, ?_⟩
  obtain ⟨ns', k1, k2, k3⟩ := SrtR.ints_outR (b := true) hS h1 h2
  obtain ⟨e', he'⟩ := PyProof.Rows.sortedHeap_at (vs := acc.toList) (out := out.toArray.reverse) hoL
  have hlen : (ns'.map V.int).length ≤ sizeLine := by
    rw [List.length_map, k2.length_eq, ← hl]
    exact hz2
  refine wpAny_pure ⟨_, rfl, .ref h'.objs.size, upd H h'.objs.size (.lst (ns'.map V.int)), I1.laid (t' := tk) (fun b u e => ?_) (Nat.le_refl _)
    (show ObjOk X.prog X.w _ _ _ (.lst (ns'.map V.int)) from ⟨hlen, out.toArray.reverse.toList, e', vals_of_ints k1, by rw [Array.toArray_toList]; exact he'⟩), rfl, q ns' _ k2 k3 (I1.hok.fresh (Nat.le_refl _))⟩
  have hb : b < h'.objs.size := Heap.lt_size e
  show (sortedHeap _ _ _ out.toArray.reverse).get? b = _
  rw [PyProof.Rows.sortedHeap_old (Nat.ne_of_lt hb) (by rw [size_push']; exact Nat.lt_succ_of_lt hb)]
  exact Heap.get?_push_of_some _ e
end
section
variable {K : Fg} {W : Wd} {ε : Ef} {σ : SS} {te : TE}
theorem kreps_ikeys {α : Type} [Py α] {H : Hp} {ks : List (Key × V)} {kv : List (Int × α)} (r : KReps K H ks kv) : ks.map (·.1) = (kv.map (·.1)).map Sum.inl := by
  induction r with
  | nil => rfl
  | cons a b ih => rw [List.map_cons, List.map_cons, List.map_cons, ih, show _ = _ from a.1]; rfl
theorem ev_sortedDR {α : Type} [Py α] {d : Dict Int α} {ys : List Int} (h : EvD ε K te σ W d) (hp : ys.Perm (d.kv.map (·.1))) (ho : ys.Pairwise (· ≥ ·)) : EvR ε K (tCKw rSortedDRI (tCons te tNil) (tCons (tC (.bl true)) tNil)) σ W ys := fun W1 g1 Q k => h W1 g1 _ fun v W2 g2 ⟨a, ks, e, hB, hH, r⟩ => by
  refine ⟨a, ks, d.kv.map (·.1), by rw [e], rfl, hH, kreps_ikeys r, fun ns' p h1 h2 hp0 => ?_⟩
  have e2 : ns' = ys := (h1.trans hp.symm).eq_of_pairwise (fun a b _ _ h h' => Int.le_antisymm h' h) (show ns'.Pairwise (· ≥ ·) from h2) ho
  subst e2
  exact k _ (W2.add p _) (g2.and (Wd.grow_add _ hp0)) ⟨p, _, rfl, upd_same, int_reps _⟩
end
end B
/-! the test of a if c else b -/
namespace B
open PySem L2 PySem.Spec PyProof.Rows
def tIfT (t ta tb : TT) : TT := fun σ H Q => t σ H fun c H1 => if c = true then ta σ H1 Q else tb σ H1 Q
theorem pt_ifExp {X : Cx} {a b c : Expr} {ta tb tA : TT} {pos : Pos} (hc : PT X c tA) (ha : PT X a ta) (hb : PT X b tb)
    (he : ∀ w, PySem.isTrue (.IfExp c a b pos) X.env w = (do
      if ← PySem.isTrue c X.env (eval c X.env) then PySem.isTrue a X.env (eval a X.env) else PySem.isTrue b X.env (eval b X.env)) := by intro w; rfl) : PT X (.IfExp c a b pos) (tIfT tA ta tb) := by
  refine ⟨fun pins s σ H Q I h => ?_⟩
  rw [he]
  refine wpAny_bind (thn (hc.run pins s σ H _ I h) fun d s1 ⟨H1, I1, q1⟩ => ?_)
  cases d with
  | true =>
    rw [if_pos rfl] at q1 ⊢
    exact ha.run pins s1 σ H1 Q I1 q1
  | false =>
    rw [if_neg (by simp)] at q1 ⊢
    exact hb.run pins s1 σ H1 Q I1 q1
theorem et_ifT {ε : Ef} {σ : SS} {W : Wd} {t ta tb : TT} {b x y : Bool} (h : EvT ε t σ W b) (h1 : b = true → EvT ε ta σ W x) (h2 : b = false → EvT ε tb σ W y) : EvT ε (tIfT t ta tb) σ W (if b then x else y) := fun W1 g1 Q k => h W1 g1 _ fun W2 g2 => by
  cases b with
  | true => rw [if_pos rfl]; exact h1 rfl W2 (g1.trans g2) Q fun W3 g3 => k W3 (g2.trans g3)
  | false => rw [if_neg (by simp)]; exact h2 rfl W2 (g1.trans g2) Q fun W3 g3 => k W3 (g2.trans g3)
end B
/-! B: repr of a list that holds dicts -/
namespace B
open PySem PySem.Spec PyProof.Rows L2
open PySem.W (Tup T3 T4 Datum DatumOrd)
def keyD : Key → PyData
  | .inl i => .int i
  | .inr x => .str x
/-- data; a dict of numbers, by the heap -/
inductive DpD (K : Fg) (H : Hp) : V → PyData → Prop
  | pl {v : V} {d : PyData} : Dp K H v d → d.hasDict = false → DpD K H v d
  | dc {a : Addr} {kv : List (Key × Int)} : Rd H a (.dK (kv.map fun q => (q.1, V.int q.2))) → DpD K H (.ref a) (.dict (kv.map fun q => (keyD q.1, PyData.int q.2)))
inductive DpDs (K : Fg) (H : Hp) : List V → List PyData → Prop
  | nil : DpDs K H [] []
  | cons {v : V} {d : PyData} {vs : List V} {ds : List PyData} : DpD K H v d → DpDs K H vs ds → DpDs K H (v :: vs) (d :: ds)
section
variable {X : Cx} {pins : List (Addr × Obj)} {σ : L2.St} {H : Hp} {s : Shared}
theorem flat_keys {P : Program} {w : World} {h : Heap} {es : List DictEntry} : ∀ {kv : List (Key × Int)} {vs : List (Key × Value)}, KV (kv.map fun q => (q.1, V.int q.2)) vs → Pairs (mixKind P w) es vs → ReadsAll h (es.map (·.key)) ((kv.map fun q => (keyD q.1, PyData.int q.2)).map (·.1)) [] ∧ ReadsAll h (es.map (·.val)) ((kv.map fun q => (keyD q.1, PyData.int q.2)).map (·.2)) [] := by
  intro kv vs hv hp
  induction hp generalizing kv with
  | nil =>
    cases kv with
    | nil => exact ⟨.nil, .nil⟩
    | cons q kv => cases hv
  | @cons e p es vs hk he _ ih =>
    cases kv with
    | nil => cases hv
    | cons q kv =>
      cases hv with
      | cons h1 h2 =>
        obtain ⟨i1, i2⟩ := ih h2
        obtain ⟨e1, e2⟩ := h1
        have e1 : q.1 = p.1 := e1
        obtain ⟨t, e2⟩ : ∃ t, p.2 = .int q.2 t := e2
        have kd : Reads h e.key (keyD q.1) [] := by
          rw [← e1] at hk
          have hk : keyIs q.1 e.key = true := hk
          rcases keyIs_shape hk with ⟨i, u, e3, e4⟩ | ⟨x, u, e3, e4⟩
          · rw [e3, e4]; exact .int i u
          · rw [e3, e4]; exact .str x u
        have vd : Reads h e.val (PyData.int q.2) [] := by rw [he, e2]; exact .int _ _
        exact ⟨.cons (as := []) (bs := []) kd i1, .cons (as := []) (bs := []) vd i2⟩
theorem DpD.reads (I : Inv X pins σ H s) {v : V} {u : Value} {d : PyData} (h : DpD X.K H v d) (r : RelV v u) : ∃ as, Reads s.heap u d as ∧ (d.hasDict = true → sysModules ∉ as) := by
  cases h with
  | pl hd hn =>
    obtain ⟨as, rd⟩ := Dp.reads I _ _ _ hd r
    exact ⟨as, rd, fun z => by rw [hn] at z; cases z⟩
  | @dc a kv e =>
    obtain rfl : u = Value.ref _ := r
    obtain ⟨_, hsys, vs, kvr, o, es, ep, ho, ex, hd, _, pr, _⟩ := dk_rd I.hok e
    obtain ⟨k1, k2⟩ := flat_keys (h := s.heap) kvr pr
    refine ⟨_, Reads.dict ho ex.1 hd k1 k2, fun _ hm => ?_⟩
    have : sysModules = a := by simpa using hm
    rw [← this] at hsys
    simp at hsys
theorem DpD.repr (I : Inv X pins σ H s) {v : V} {u : Value} {d : PyData} (h : DpD X.K H v d) (r : RelV v u) (hs : d.showable = true) (hz : d.shown.length ≤ sizeLine) : ∃ as, Reads s.heap u d as ∧ ∃ bs, ReadAtMost s.heap d.depth bs ∧ ReprK X.prog X.w bs s.heap d.depth u d.shown := by
  obtain ⟨as, rd, hn⟩ := h.reads I r
  exact ⟨as, rd, ReprK.of_reads rd hs hn hz⟩
theorem DpDs.repr (I : Inv X pins σ H s) : ∀ {vs : List V} {us : List Value} {ds : List PyData}, DpDs X.K H vs ds → Vals vs us → PyData.showableAll ds = true → (∀ t ∈ PyData.shownAll ds, t.length ≤ sizeLine) →
    (∃ as, ReadsAll s.heap us ds as) ∧ ∃ bs, ReadAtMost s.heap (PyData.depthAll ds) bs ∧ ReprAllK X.prog X.w bs s.heap (PyData.depthAll ds) us (PyData.shownAll ds)
  | _, _, _, .nil, .nil, _, _ => ⟨⟨_, .nil⟩, [], (fun _ h => nomatch h), by simp only [PyData.shownAll]; exact .nil⟩
  | _, _, _, .cons (d := d) (ds := ds) h hs', .cons r rs, hs, hz => by
    have hs2 : d.showable = true ∧ PyData.showableAll ds = true := by simpa [PyData.showableAll] using hs
    obtain ⟨as, rd, b1, hb1, k1⟩ := h.repr I r hs2.1 (hz _ (by simp only [PyData.shownAll]; exact List.mem_cons_self ..))
    obtain ⟨⟨as2, rds⟩, b2, hb2, k2⟩ := DpDs.repr I hs' rs hs2.2 fun t ht => hz t (by simp only [PyData.shownAll]; exact List.mem_cons_of_mem _ ht)
    refine ⟨⟨_, .cons rd rds⟩, b1 ++ b2, fun b hm => ?_, ?_⟩
    · simp only [PyData.depthAll]
      rcases List.mem_append.mp hm with hm | hm
      · obtain ⟨d', as', r', hd'⟩ := hb1 b hm
        exact ⟨d', as', r', Nat.le_trans hd' (Nat.le_max_left _ _)⟩
      · obtain ⟨d', as', r', hd'⟩ := hb2 b hm
        exact ⟨d', as', r', Nat.le_trans hd' (Nat.le_max_right _ _)⟩
    · simp only [PyData.depthAll, PyData.shownAll]
      exact .cons ((k1.more fun b hb => List.mem_append_left _ hb).level_le (Nat.le_max_left _ _)) (k2.more_le (fun b hb => List.mem_append_right _ hb) (Nat.le_max_right _ _))
end
section
variable {prog : Program} {w : World} {A : Around} {E : Value → Shared → Prop} {s : Shared}
theorem repr_listD {a : Addr} {o : Obj} {vs : List Value} {n : _} {d : List PyData} {az bs : List Addr} {Q : Value → Shared → Prop} (h1 : s.heap.get? a = some o) (h2 : o.cls = .type "list") (h3 : o.data = .seq vs.toArray n) (r : ReadsAll s.heap vs d az) (hb : ReadAtMost s.heap (PyData.depthAll d) bs) (hk : ReprAllK prog w bs s.heap (PyData.depthAll d) vs (PyData.shownAll d))
    (hg : A.guards = some []) (hu : A.units + 60 < cLine) (h40 : PyData.depthAll d ≤ 40) (hz : (listText (PyData.shownAll d)).length ≤ sizeLine)
    (hQ : ∀ h' u tk, (∀ b o, s.heap.get? b = some o → h'.get? b = some o) → Q (.str (listText (PyData.shownAll d)) u) { s with heap := h', toks := tk }) : wpAny (model prog w) A (call (.builtin "repr") [.ref a]) Q E s := by
  have r0 : Reads s.heap (.ref a) (.list d) (a :: az) := .list h1 h2 h3 (by simpa using r)
  have hna : a ∉ bs := not_mem_of_deeper r0 (by simp only [PyData.depth]; omega) hb
  have hTy : s.TypeIs (.ref a) "list" := ⟨o, h1, h2⟩
  refine Calls.call_function_entry F.kind_repr F.plain_repr F.entry_repr (F.args_repr1 _) ?_
  unfold Builtin.«repr»
  refine wpAny_bind (m := oneArg "repr" _) (wpAny_pure ?_)
  refine wpAny_bind (wpAny_cRoomFor (by show A.units + 1 < _; omega) ?_)
  refine wpAny_bind (wpAny_specialOf (name := Str.ofString "__repr__") hTy F.slot_list_repr.lookup ?_)
  have fin : ∀ h' u tk, (∀ b o, s.heap.get? b = some o → h'.get? b = some o) → wpAny (model prog w) A.in1 (isInstance (.str (listText (PyData.shownAll d)) u) (.type "str") >>= fun b => if b = true then ret (.str (listText (PyData.shownAll d)) u) else rule "repr.not-str" >>= fun _ => typeNameOf (.str (listText (PyData.shownAll d)) u) >>= fun nm => raiseError "TypeError" s!"__repr__ returned non-string (type {nm})")
      (fun fin s' => ∃ v, fin = .done (.ret v) ∧ Q v s') E { s with heap := h', toks := tk } := fun h' u tk hk =>
    wpAny_bind (wpAny_isInstance (T := "str") (b := true) rfl isSubtype_str_str (wpAny_pure ⟨_, rfl, hQ h' u tk hk⟩))
  refine wpAny_bind (m := callSpecialIfBound? (.ref a) (Str.ofString "__repr__")) (wpAny_callSpecialIfBound?_slot (name := Str.ofString "__repr__") hTy F.slot_list_repr ?_)
  cases vs with
  | nil =>
    cases r
    exact call_list_repr_empty hTy h1 h3 (fin s.heap _ _ fun _ _ e => e)
  | cons x l =>
    exact call_list_reprK h1 h2 h3 hna (by simpa using hk.length_eq) (fun i y e => hk.item i y (by simpa using e)) (show A.in1.guards = some [] from hg) (fun b _ => Clear.nil b) (by show A.units + 1 + _ < _; omega) (fun _ _ e => e) (fun h' u tk hk' => fin h' u tk hk') hz
end
def rReprD (K : Fg) : List V → Hp → VK → Prop := fun vs H Q => ∃ (a : Addr) (xs : List V) (d : List PyData), vs = [.ref a] ∧ SqL K H a xs ∧ DpDs K H xs d ∧ PyData.showableAll d = true ∧ PyData.depthAll d ≤ 40 ∧ (listText (PyData.shownAll d)).length ≤ sizeLine ∧ Q (.str (listText (PyData.shownAll d))) H
theorem cr_reprD {X : Cx} (hg : X.A.guards = some []) (hu : X.A.units + 64 < cLine) : CallR X (.builtin "repr") (rReprD X.K) := by
  intro pins s σ H xs us Q I r h
  obtain ⟨a, ys, d, rfl, hl, hd, h1, h3, h4, q⟩ := h
  obtain ⟨u, rfl, ru⟩ := vals1 r
  obtain rfl : u = Value.ref a := ru
  obtain ⟨its, rv, ⟨o, n, ho, hc, _, hdat⟩, _⟩ := I.list hl
  obtain ⟨⟨az, ra⟩, bs, hb, hk⟩ := hd.repr I rv h1 fun t ht => Nat.le_trans (listText_mem_le ht) h4
  exact repr_listD ho hc hdat ra hb hk hg (by omega) h3 h4 fun h' u tk hk => ⟨.str _, H, I.kept hk, ⟨_, rfl⟩, q⟩
mutual
theorem dp_ext {K : Fg} {H H' : Hp} (e : Ext H H') : ∀ (d : PyData) (v : V), Dp K H v d → Dp K H' v d
  | .none, _, h => by cases h; exact .non
  | .bool b, _, h => by cases h; exact .bl b
  | .int i, _, h => by cases h; exact .int i
  | .str x, _, h => by cases h; exact .str x
  | .list ds, _, h => by
    cases h with
    | lst hs ha => exact .lst (e.l hs) (dps_ext e ds _ ha)
  | .tuple ds, _, h => by
    cases h with
    | tup hs ha => exact .tup (e.t hs) (dps_ext e ds _ ha)
  | .dict _, _, h => by cases h
theorem dps_ext {K : Fg} {H H' : Hp} (e : Ext H H') : ∀ (ds : List PyData) (vs : List V), DpAll K H vs ds → DpAll K H' vs ds
  | [], _, h => by cases h; exact .nil
  | d :: ds, _, h => by
    cases h with
    | cons h1 h2 => exact .cons (dp_ext e d _ h1) (dps_ext e ds _ h2)
end
def rReprV (K : Fg) : List V → Hp → VK → Prop := fun vs H Q => ∃ (v : V) (d : PyData), vs = [v] ∧ DpD K H v d ∧ d.showable = true ∧ d.depth ≤ 40 ∧ d.shown.length ≤ sizeLine ∧ Q (.str d.shown) H
theorem cr_reprV {X : Cx} (hg : X.A.guards = some []) (hu : X.A.units + 64 < cLine) : CallR X (.builtin "repr") (rReprV X.K) := by
  intro pins s σ H xs us Q I r h
  obtain ⟨v, d, rfl, hd, h1, h3, h4, q⟩ := h
  obtain ⟨u, rfl, ru⟩ := vals1 r
  obtain ⟨as, rd, hn⟩ := hd.reads I ru
  have fin : ∀ tk u, EP X pins σ Q (.str d.shown u) { s with toks := tk } := fun tk u => ⟨.str _, H, I.kept (t' := tk) fun _ _ z => z, ⟨_, rfl⟩, q⟩
  cases rd with
  | none => exact P.repr_of_none (fin _ _)
  | bool b => exact P.repr_of_bool (fin _ _)
  | int i t => exact P.repr_of_int (by simpa [PyData.showable] using h1) (fin _ _)
  | str x t => exact P.repr_of_str (fin _ _) h4
  | list a1 a2 a3 a4 => exact repr_of_reads' (.list a1 a2 a3 a4) h1 hn hg (by omega) (fun _ _ e => e) (fun h' u tk hk => ⟨.str _, H, I.kept hk, ⟨_, rfl⟩, q⟩) h4
  | tuple a1 a2 a3 a4 => exact repr_of_reads' (.tuple a1 a2 a3 a4) h1 hn hg (by omega) (fun _ _ e => e) (fun h' u tk hk => ⟨.str _, H, I.kept hk, ⟨_, rfl⟩, q⟩) h4
  | dict a1 a2 a3 a4 a5 => exact repr_of_reads' (.dict a1 a2 a3 a4 a5) h1 hn hg (by omega) (fun _ _ e => e) (fun h' u tk hk => ⟨.str _, H, I.kept hk, ⟨_, rfl⟩, q⟩) h4
/-- data of which some are new dicts -/
inductive DpW (K : Fg) (W : Wd) : V → PyData → Prop
  | pl {v : V} {d : PyData} : Dp K W.B v d → d.hasDict = false → DpW K W v d
  | st {c : Addr} {kv : List (Str × Int)} : DMut K W c kv → DpW K W (.ref c) (.dict (kv.map fun q => (PyData.str q.1, PyData.int q.2)))
  | it {c : Addr} {kv : List (Int × Int)} : DMut K W c kv → DpW K W (.ref c) (.dict (kv.map fun q => (PyData.int q.1, PyData.int q.2)))
section
variable {K : Fg} {W W' : Wd} {σ : SS} {te : TE} {ta : TA}
theorem kreps_flat {κ : Type} [DecidableEq κ] [PyKey κ] {B : Hp} : ∀ {ks : List (Key × V)} {kv : List (κ × Int)}, KReps K B ks kv → ks = kv.map fun q => (PyKey.key q.1, V.int q.2)
  | [], [], .nil => rfl
  | p :: ks, q :: kv, .cons h r => by
    obtain ⟨e1, e2⟩ := h
    have e2 : p.2 = V.int q.2 := e2
    rw [List.map_cons, ← kreps_flat r, ← e1, ← e2]
theorem DpW.gr {v : V} {d : PyData} (h : DpW K W v d) (g : Grow W W') : DpW K W' v d := by
  cases h with
  | pl h n => exact .pl (dp_ext (exExt g.b) _ _ h) n
  | st m => exact .st (m.gr g)
  | it m => exact .it (m.gr g)
theorem DpW.d {v : V} {d : PyData} (h : DpW K W v d) : DpD K W.H v d := by
  cases h with
  | pl h n => exact .pl (dp_ext W.sub _ _ h) n
  | @st c kv m =>
    obtain ⟨ks, e, r⟩ := m.ex
    rw [kreps_flat r] at e
    have := DpD.dc (K := K) (H := W.H) (a := c) (kv := kv.map fun q => ((Sum.inr q.1 : Key), q.2)) (.inl (by rw [e, List.map_map]; rfl))
    rw [List.map_map] at this
    exact this
  | @it c kv m =>
    obtain ⟨ks, e, r⟩ := m.ex
    rw [kreps_flat r] at e
    have := DpD.dc (K := K) (H := W.H) (a := c) (kv := kv.map fun q => ((Sum.inl q.1 : Key), q.2)) (.inl (by rw [e, List.map_map]; rfl))
    rw [List.map_map] at this
    exact this
/-- a row of such data is made -/
def EvDs (K : Fg) (ta : TA) (σ : SS) (W : Wd) (ds : List PyData) : Prop := ∀ W1, Stp pur W W1 → ∀ Q : List V → Hp → Prop, (∀ us W2, Stp pur W1 W2 → (∀ W3, Grow W2 W3 → DpDs K W3.H us ds) → us.length = ds.length → Q us W2.H) → ta σ W1.H Q
theorem eds_nil : EvDs K tNil σ W [] := fun W1 g1 Q k => k [] W1 g1.rf (fun _ _ => .nil) rfl
theorem eds_cons {d : PyData} {ds : List PyData} (h : EvP pur te σ W (fun v W' => DpW K W' v d)) (hr : EvDs K ta σ W ds) : EvDs K (tCons te ta) σ W (d :: ds) := fun W1 g1 Q k =>
  h W1 g1 _ fun v W2 g2 p => hr W2 (g1.trans g2) _ fun us W3 g3 ps l => k (v :: us) W3 (g2.trans g3) (fun W4 g4 => .cons (p.gr (g3.pure.trans g4)).d (ps W4 g4)) (by rw [List.length_cons, l, List.length_cons])
theorem ed_pl {α : Type} [DecidableEq α] [Datum α] [Py α] [PyD α] {x : α} (h : EvR pur K te σ W x) (hn : (Datum.toD x).hasDict = false) : EvP pur te σ W (fun v W' => DpW K W' v (Datum.toD x)) := fun W1 g1 Q k => h W1 g1 Q fun v W2 g2 r => k v W2 g2 (.pl (PyD.dp r) hn)
theorem ed_st {kv : List (Str × Int)} (h : EvM pur K te σ W kv) : EvP pur te σ W (fun v W' => DpW K W' v (.dict (kv.map fun q => (PyData.str q.1, PyData.int q.2)))) := fun W1 g1 Q k => h W1 g1 Q fun p W2 g2 _ m => k _ W2 g2 (.st m)
theorem ed_it {kv : List (Int × Int)} (h : EvM pur K te σ W kv) : EvP pur te σ W (fun v W' => DpW K W' v (.dict (kv.map fun q => (PyData.int q.1, PyData.int q.2)))) := fun W1 g1 Q k => h W1 g1 Q fun p W2 g2 _ m => k _ W2 g2 (.it m)
/-- repr([..]), dicts in it -/
theorem ev_reprD {ds : List PyData} (h : EvDs K ta σ W ds) (hs : PyData.showableAll ds = true) (hd : PyData.depthAll ds ≤ 40) (hl : (listText (PyData.shownAll ds)).length ≤ 100000) (hn : ds.length ≤ 100000) : EvR pur K (tCB (rReprD K) (tCons (tLst ta) tNil)) σ W (listText (PyData.shownAll ds)) := fun W1 g1 Q k => h W1 g1 _ fun us W2 g2 ps l =>
  ⟨by rw [l]; exact Evl.sz_of hn, fun p hp => by
    let W3 := W2.add p (.lst us)
    have g3 : Grow W2 W3 := W2.grow_add hp
    exact ⟨p, us, ds, rfl, SqL.of upd_same, ps W3 g3, hs, hd, Evl.sz_of hl, k _ W3 (g2.trans (.of g3)) rfl⟩⟩
end
end B
/-! B: data of any kind -/
namespace B
open PySem PySem.Spec PyProof.Rows L2
open PySem.W (Tup T3 T4 Datum DatumOrd)
mutual
theorem nd_plain : ∀ d : PyData, d.plain = true → d.hasDict = false
  | .none, _ => rfl
  | .bool _, _ => rfl
  | .int _, _ => rfl
  | .str _, _ => rfl
  | .list xs, h => by simp only [PyData.plain] at h; simp only [PyData.hasDict]; exact nd_plains xs h
  | .tuple xs, h => by simp only [PyData.plain] at h; simp only [PyData.hasDict]; exact nd_plains xs h
  | .dict _, h => by simp [PyData.plain] at h
theorem nd_plains : ∀ ds : List PyData, PyData.plainAll ds = true → PyData.hasDictAll ds = false
  | [], _ => by simp [PyData.hasDictAll]
  | d :: ds, h => by
    simp only [PyData.plainAll, Bool.and_eq_true] at h
    simp only [PyData.hasDictAll, nd_plain d h.1, nd_plains ds h.2, Bool.or_self]
end
theorem dpd_ext {K : Fg} {H H' : Hp} (e : Ext H H') {d : PyData} {v : V} (h : DpD K H v d) : DpD K H' v d := by
  cases h with
  | pl h n => exact .pl (dp_ext e _ _ h) n
  | dc h => exact .dc (e.rd h)
instance : Py PyData := ⟨fun K H v d => DpD K H v d, fun e h => dpd_ext e h⟩
section
variable {α : Type} [DecidableEq α] [Datum α] [Py α] [PyD α] {K : Fg} {W : Wd} {σ : SS} {ε : Ef} {te : TE}
theorem rep_dt {H : Hp} {v : V} {x : α} (h : rep K H v x) : rep K H v (Datum.toD x) := .pl (PyD.dp h) (nd_plain _ (Datum.plain x))
theorem ev_dt {x : α} (h : EvR ε K te σ W x) : EvR ε K te σ W (Datum.toD x) := fun W1 g1 Q k => h W1 g1 Q fun v W2 g2 r => k v W2 g2 (rep_dt r)
theorem ev_dd (h : EvD ε K te σ W (⟨[]⟩ : Dict Int Int)) : EvR ε K te σ W (PyData.dict []) := fun W1 g1 Q k => h.rep W1 g1 Q fun v W2 g2 ⟨a, ks, e, r, kr⟩ => k v W2 g2 (by
  cases kr
  subst e
  exact DpD.dc (kv := []) r)
end
def dcls : PyData → String
  | .int _ => "int" | .bool _ => "bool" | .none => "NoneType" | .str _ => "str" | .tuple _ => "tuple" | .list _ => "list" | .dict _ => "dict"
theorem ty_sql {K : Fg} {H : Hp} {a : Addr} {xs : List V} (h : SqL K H a xs) : TyX K H (.ref a) (.type "list") := by
  rcases h with (h | ⟨o, h⟩) | ⟨o, its, n, h1, h2, _⟩
  · exact .base (.lst h)
  · exact .base (.frz h)
  · exact .kList h1 h2
theorem ty_sqt {K : Fg} {H : Hp} {a : Addr} {xs : List V} (h : SqT K H a xs) : TyX K H (.ref a) (.type "tuple") := by
  rcases h with (h | ⟨o, h⟩) | ⟨o, its, n, h1, h2, _⟩
  · exact .base (.tup h)
  · exact .fTuple h
  · exact .kTuple h1 h2
theorem ty_dt {K : Fg} (W1 : Wd) (v : V) (d : PyData) (h : rep K W1.B v d) : TyX K W1.H v (.type (dcls d)) := by
  have h2 : DpD K W1.H v d := dpd_ext W1.sub h
  clear h
  cases h2 with
  | pl h _ =>
    cases h with
    | non => exact .base .non
    | bl b => exact .base (.bl b)
    | int i => exact .base (.int i)
    | str s => exact .base (.str s)
    | lst hs _ => exact ty_sql hs
    | tup hs _ => exact ty_sqt hs
  | dc h =>
    rcases h with z | ⟨o, z⟩
    · exact .base (.dK z)
    · exact .fDict z
theorem rc_isD {K : Fg} {c : String} {d : PyData} {b : Bool} (hk : kitB (dcls d) c = some b) : RC2 K (rIsi K) d (Raw.mk (.ty c)) b := rc_isi (fun W1 v h => ty_dt W1 v d h) hk
/-- that a thing is of no such kind -/
def KdNo (K : Fg) (c : String) (v : V) (W : Wd) : Prop := ∃ a : String, (∀ W', Grow W W' → TyX K W'.H v (.type a)) ∧ kitB a c = some false
theorem KdNo.gr {K : Fg} {c : String} {v : V} {W W' : Wd} (h : KdNo K c v W) (g : Grow W W') : KdNo K c v W' := by
  obtain ⟨a, h1, h2⟩ := h
  exact ⟨a, fun W2 g2 => h1 W2 (g.trans g2), h2⟩
theorem kdno_dt {K : Fg} {c : String} {v : V} {W : Wd} {d : PyData} (h : rep K W.B v d) (hk : kitB (dcls d) c = some false) : KdNo K c v W := ⟨_, fun W' g => ty_dt W' v d (rep_g g h), hk⟩
theorem ev_kdNo {K : Fg} {c : String} {v : V} {W : Wd} {σ : SS} {te : TE} (h : EvR pur K te σ W (Raw.mk v)) (n : KdNo K c v W) : EvR pur K (tCB (rIsi K) (tCons te (tCons (tC (.ty c)) tNil))) σ W false := fun W1 g1 Q k => h W1 g1 _ fun u W2 g2 e => by
  obtain ⟨a, h1, h2⟩ := n
  rw [show u = v from e]
  exact ⟨v, .ty c, .type a, .type c, false, rfl, .ty c, h1 W2 (g1.trans g2).pure, kit_ty h2, k _ W2 g2 rfl⟩
/-- that a thing is no instance of an own class -/
def KdOf (K : Fg) (C : Addr) (v : V) (W : Wd) : Prop := ∃ t : Value, (∀ W', Grow W W' → TyX K W'.H v t) ∧ PySem.W.kitOne K t (.ref C) = some false
theorem KdOf.gr {K : Fg} {C : Addr} {v : V} {W W' : Wd} (h : KdOf K C v W) (g : Grow W W') : KdOf K C v W' := by
  obtain ⟨t, h1, h2⟩ := h
  exact ⟨t, fun W2 g2 => h1 W2 (g.trans g2), h2⟩
theorem ev_kdOf {K : Fg} {C : Addr} {W : Wd} {σ : SS} {te : TE} {v : V} (h : EvR pur K te σ W (Raw.mk v)) (n : KdOf K C v W) : EvR pur K (tCB (rIsi K) (tCons te (tCons (tC (.ref C)) tNil))) σ W false := fun W1 g1 Q k => h W1 g1 _ fun u W2 g2 e => by
  obtain ⟨t, h1, h2⟩ := n
  rw [show u = v from e]
  exact ⟨v, .ref C, t, .ref C, false, rfl, .own C, h1 W2 (g1.trans g2).pure, h2, k _ W2 g2 rfl⟩
end B
/-! B: classes of refusals, told by the top's names -/
namespace B
open PySem PySem.Spec PyProof.Rows L2
def cErr (K : Fg) (x : Str) : Addr := match PySem.W.nsIn K mainGlobals x with
  | some (some (.ref C)) => C
  | _ => 0
theorem cErr_of {K : Fg} {x : Str} {C : Addr} (h : PySem.W.nsIn K mainGlobals x = some (some (.ref C))) : cErr K x = C := by
  unfold cErr
  rw [h]
/-- str(n) -/
abbrev rStrI : List V → Hp → VK → Prop := fun xs H Q => ∃ i : Int, xs = [.int i] ∧ i.natAbs.log2 < 1920 ∧ Q (.str (toString i)) H
/-- a call in a def that lets out what it gets -/
theorem passE {X : Cx} {E : XK} (hs : X.stack = X.env :: X.outer) (hf : X.env.frame = some X.env.locals) (hex : X.ex = []) {E₁ : Value → Shared → Prop}
    (hx : X.xe = fun e s' => wpAny (model X.prog X.w) X.A (leaving X.env e) (fun _ s'' => L2.CX X.prog X.w X.outer X.H_0 X.s_0 E e s'') E₁ s') : Passes (L2.CX X.prog X.w) X E :=
  passes_call (takes_of hs hf hex hx) fun _ _ _ _ h => h
end B
/-! BE: errors with fields of their own: made, caught, kept, asked -/
namespace BE
open PySem PySem.Spec PySem.Calls PyProof.Rows
section
open PySem.W
variable {prog : Program} {w : World} {A : Around} {E : Value → Shared → Prop} {s : Shared} {K : Frag} {x D : Addr} {ox : Obj} {od : Option Obj}
theorem find_dataO {C : Addr} {name : Str} {a g : Value} (hc : (clsIn K C).isSome = true) (ha : findIn K (.ref C) name = some (some a)) (hg : specialIn K a "__get__" = some (some g)) (ht : takesIn K a = some true) : findObj K C od name = some (.bind g a) := by
  cases od with
  | none => exact findObj_dataN hc ha hg ht
  | some o => exact findObj_data hc ha hg ht
theorem classE_at {Q : Option Value → Shared → Prop} (C : L2.ExcC K D) (X : K.In s.heap) (I : InstAt s.heap x ox D od) (h : Q (some (.ref D)) { s with toks := s.toks + 1 }) : wpAny (model prog w) A (getAttr? (.ref x) "__class__") Q E s := by
  have hf : findObj K D od "__class__" = some (.bind (.builtin "getset_descriptor.__get__") (.builtin "object.__class__")) := find_dataO (by obtain ⟨cd, hc, _⟩ := any_some C.hd; rw [hc]; rfl) C.ha C.hn C.ht
  obtain ⟨hp, g, d, t, os⟩ := s
  have k0 := I.type (M := model prog w)
  have k1 := looks_findIn (M := model prog w) X C.hg
  have k2 := looks_findIn (M := model prog w) X C.hk
  have k3 := looks_find (M := model prog w) X I hf
  have sb : Looks (model prog w) hp (isInstance (.ref x) (.type "BaseException")) true := k0.andThen (looks_subIn X C.hs)
  have n0 : (false && onTheHeap (Value.builtin "BaseException.__getattribute__")) = false := rfl
  have n2 : (Value.builtin "BaseException.__getattribute__" == Value.builtin "object.__getattribute__") = false := by decide +kernel
  have n1 : (onTheHeap (Value.ref D) && Value.builtin "BaseException.__getattribute__" == Value.builtin "object.__getattribute__") = false := by rw [n2]; rfl
  unfold getAttr? getAttrBy? getAttrBy
  refine wpAny_bind (wpAny_mkText (wpAny_bind (wpAny_attempt (wpAny_holding (wpAny_bind (k0.at (wpAny_bind (k1.at ?_))))))))
  show wpAny _ _ (if (onTheHeap (Value.ref D) && Value.builtin "BaseException.__getattribute__" == Value.builtin "object.__getattribute__") = true then _ else _) _ _ _
  rw [n1, if_neg Bool.false_ne_true]
  unfold getAttrByItsOwn hookBefore
  refine wpAny_bind ?_
  rw [if_pos (show onTheHeap (Value.ref D) = true from rfl)]
  refine k2.at ?_
  refine wpAny_bind (wpAny_attempt (wpAny_holding ?_))
  unfold callGetattribute
  rw [n0, if_neg Bool.false_ne_true]
  unfold boundAndCalled
  rw [PySem.F.excAttr_ValueError.ga.bind (.ref x)]
  refine wpAny_bind (wpAny_pure ?_)
  show wpAny _ _ (call (.builtin "BaseException.__getattribute__") [.ref x, .str "__class__" t]) _ _ _
  refine wpAny_call (codeAny_call_builtin PySem.F.excAttr_ValueError.ga.plain PySem.F.entry_bexc_ga ?_)
  refine @check_slot (model prog w) _ _ ⟨hp, g, d, t + 1, os⟩ "BaseException.__getattribute__" "BaseException" "__getattribute__" (.ref x) [.str "__class__" t] [] _ (by decide +kernel) (by decide +kernel) sb (PySem.F.args_bexc_ga (.ref x) (.str "__class__" t)) ?_
  unfold Builtin.«object.__getattribute__»
  refine wpAny_bind (wpAny_of_eq (a := ((Value.ref x : Value), [Value.str "__class__" t])) (by first | rfl | (simp only [slotArgs]; rfl)) ?_)
  refine wpAny_bind (wpAny_pure (wpAny_bind (k0.at (wpAny_bind (k3.at ?_)))))
  show wpAny _ _ (holding [Value.builtin "object.__class__"] (call (.builtin "getset_descriptor.__get__") [.builtin "object.__class__", .ref x, .ref D]) >>= ret) _ _ _
  refine wpAny_bind (wpAny_holding (wpAny_call (class_get (s := ⟨hp, g, d, t + 1, os⟩) (ox := ox) (od := od) X I C.hm ?_)))
  refine wpAny_pure ?_
  show wpAny _ _ (handedOut (.ref D)) _ _ _
  rw [handedOut_of (v := .ref D) rfl]
  first
    | exact wpAny_pure (wpAny_pure h)
    | exact wpAny_pure h
    | exact wpAny_pure (wpAny_bind (wpAny_pure (wpAny_pure h)))
theorem kit_at (C : L2.ExcC K D) : KitX K (.ref x) (.ref D) (fun h => InstAt h x ox D od) where
  ty := fun _ _ _ I => I.type
  it := fun _ _ X _ => by
    obtain ⟨cd, hc, _⟩ := any_some C.hd
    unfold clsIn at hc
    split at hc
    · rename_i e
      exact fun A' Q' E' s' k q => wpAny_bind (m := loadHead D) (wpAny_loadPart (k _ _ (X _ _ e)) (wpAny_pure q))
    · cases hc
  ne := (handS_kitx_exc (x := x) (ox := ox) C.hg C.hk C.hs C.hd C.ha C.hn C.ht C.hm).ne
  ca := fun X I k => classE_at C X I k
end
open L2
/-- isinstance(e, c), e an error that was kept, with fields or without -/
def rIsF (K : PySem.W.Frag) : List V → Hp → VK → Prop := fun xs H Q => ∃ (a D : Addr) (d : Option Addr) (c : V) (cv : Value) (b : Bool), xs = [.ref a, c] ∧ H a = some (BX.ExK (.ref D) d a) ∧ (∀ dd, d = some dd → ∃ fs, H dd = some (.xd fs)) ∧ ExcC K D ∧ (∀ u, RelV c u → u = cv) ∧ PySem.W.kitOne K (.ref D) cv = some b ∧ Q (.bl b) H
theorem call_isF {X : Cx} : CallR X (.builtin "isinstance") (rIsF X.K) := by
  intro pins s σ H xs us Q I r h
  obtain ⟨a, D, d, c, cv, b, rfl, ha, hd, C, hcv, e, q⟩ := h
  cases r with
  | cons rx rr =>
    cases rr with
    | cons rt rr =>
      cases rr
      cases rx
      have ec := hcv _ rt
      subst ec
      obtain ⟨oe, vs, hget, hz, hv⟩ := (I.hok a _ ha).1
      obtain ⟨od, J⟩ : ∃ od, PySem.W.InstAt s.heap a oe D od := by
        obtain ⟨oc, od, oda, osl⟩ := oe
        obtain ⟨h1, h2⟩ := hz
        dsimp only at h1 h2 hv
        subst h1 h2 hv
        cases od with
        | none => exact ⟨none, hget, rfl, rfl, trivial⟩
        | some dd =>
          obtain ⟨fs, hfs⟩ := hd dd rfl
          have hx : ObjOk X.prog X.w H s.heap dd (.xd fs) := I.hok dd _ hfs
          obtain ⟨mA, hns, _⟩ := hx
          obtain ⟨o2, _, _, ho, _⟩ := hns
          exact ⟨some o2, hget, rfl, rfl, ho⟩
      exact PySem.W.kia_one (kit_at C) I.kIn J e (fun z => nomatch z) fun tk => ⟨.bl b, H, I.kept (t' := tk) fun _ _ z => z, rfl, q⟩
/-- what the written part says of a class with its own __init__ -/
def oexIn (K : PySem.W.Frag) (C : Addr) : Bool := match K.lookup C with
  | some ⟨.type "type", _, .cls cd, sl⟩ => (match cd.mro, sl.toList with
    | .ref C' :: bm, [_, _, _, _, some (.builtin n), _] => C' == C && n == "ValueError.__new__" && !cd.hasDel && cd.hasDict && PySem.HandSPX.refsVE bm
    | _, _ => false)
  | _ => false
theorem oex_mk {K : PySem.W.Frag} {C : Addr} (q : oexIn K C = true) (sa : PySem.W.findIn K (.ref C) "__setattr__" = some (some (.builtin "object.__setattr__"))) (ex : PySem.W.subIn K (.ref C) (.type "BaseException") = some true) (ty : PySem.W.typeIn K (.ref C) = some (.type "type")) (kp : PySem.W.keepIn K (.ref C) = true) : OexC K C := by
  refine ⟨?_, sa, ex, ty, kp⟩
  unfold oexIn at q
  split at q
  · rename_i dd cd sl ho
    split at q
    · rename_i C' bm k0 k1 k2 k3 n k5 hm hs
      simp only [Bool.and_eq_true, beq_iff_eq, Bool.not_eq_true'] at q
      obtain ⟨⟨⟨⟨rfl, rfl⟩, hdel⟩, hdct⟩, ht⟩ := q
      obtain ⟨nm, bs, mro, ns, qn, hd, sn, sub, ab, col, del⟩ := cd
      dsimp only at hm hdel hdct
      subst hm hdel hdct
      obtain ⟨l⟩ := sl
      simp only at hs
      subst hs
      exact ⟨nm, qn, ns, bs, bm, sn, sub, ab, col, dd, k0, k1, k2, k3, k5, ho, ht⟩
    · cases q
  · cases q
/-- raise C(e, ..) out of a def, C's own __init__ keeping sp -/
abbrev tRaiseI (C : Addr) (sp : Sp) (ta : TA) (E : XK) : TS := fun _ σ H => tMkO C sp [] ta σ H E
theorem ps_raiseI {X : Cx} {CX : CXT} {E : XK} {C fI : Addr} {k : Nat} {fd : FuncData} {ps : List Str} {sp : Sp} {x : Str} {e : Expr} {es : List Expr} {ta : TA} {p pos pos2 : Pos} {E₁ : Value → Shared → Prop} (T : OexC X.K C) (iC : PySem.W.findIn X.K (.ref C) "__init__" = some (some (.ref fI))) (tI : PySem.W.typeIn X.K (.ref fI) = some (.type "function"))
    (F1 : FnOk X.prog X.w X.K X.mg X.base CX k fI fd ps sp) (hp : Passes CX X (fun _ _ _ => False)) (hr : Room (k + 1) X.A) (hb : Binds X.K fd ps []) (hg : Gl X x) (hm : X.mg x = some (.ref C)) (ha : PA X (e :: es) ta) (hc : X.calm = true) (hs : X.stack = X.env :: X.outer) (hf : X.env.frame = some X.env.locals) (hex : X.ex = [])
    (hx : X.xe = fun e s' => wpAny (model X.prog X.w) X.A (leaving X.env e) (fun _ s'' => L2.CX X.prog X.w X.outer X.H_0 X.s_0 E e s'') E₁ s') (hdb : (x == ("__debug__" : Str)) = false := by decide)
    (he : starEach (e :: es) X.env = (false, eval e X.env) :: starEach es X.env := by rfl) (hpl : (backTo pos (starEach es X.env)).any (·.1) = false := by rfl) :
    PS X (.Raise (some (.Call (.Name x p) (e :: es) [] pos)) none pos2) (tRaiseI C sp ta E) :=
  ps_raise hc (takes_of hs hf hex hx) (pmk_oex (dvs := []) T iC tI F1 hr hb .nil hp hg hm ha hdb he hpl)
end BE
namespace B
open PySem L2
/-- s.upper() -/
abbrev rUpper : V → List V → Hp → VK → Prop := fun x xs H Q => ∃ a, x = .str a ∧ xs = [] ∧ a.length ≤ 5592405 ∧ Q (.str (Txt.upper a)) H
end B
/-! B: == and != of an own instance and a thing of any kind -/
namespace B
open PySem L2 PySem.Spec PyProof.Rows
section
variable {prog : Program} {w : World} {A : Around} {E : Value → Shared → Prop} {s : Shared} {K : Fg} {x C L f : Addr} {y : Value} {h₀ : Heap} {m : Str → Option Value} {ox : Obj} {od : Option Obj}
theorem ne_bodyA {Q : PySem.Fin → Shared → Prop} (X : K.In s.heap) (I : PySem.W.InstAt s.heap x ox C od) (hs : PySem.W.findIn K (.ref C) "__eq__" = some (some (.ref f))) (hf : PySem.W.isFn K (.ref f) = true) (hu : A.units < cLine)
    (h : wpAny (model prog w) A (call (.ref f) [.ref x, y]) (fun v s' => ∃ b, v = .bool b ∧ Q (.done (.ret (.bool (!b)))) s') E s) : wpAny (model prog w) A (Builtin.«object.__ne__» ⟨[.ref x, y], []⟩) Q E s := by
  unfold Builtin.«object.__ne__»
  repeat (first
    | with_reducible refine wpAny_cRoomFor hu ?_
    | (refine wpAny_bind (m := callSpecialIfBound? (.ref x) (Str.ofString "__eq__") [y]) (PySem.W.ifBound_K X I hs hf (wpAny_mono h (fun v s' hv => ?_) fun _ _ e => e)))
    | wp_step)
  obtain ⟨b, rfl, q⟩ := hv
  repeat (first | exact q | exact wpAny_pure q | exact wpAny_truthy_bool q | (refine wpAny_bind (m := truthy (.bool _)) (wpAny_truthy_bool ?_)) | wp_step)
end
section
variable {X : Cx} {CX : CXT} {k : Nat} {f C : Addr} {fd : FuncData} {ps : List Str} {sp : Sp} {E : XK}
/-- x == y, x an instance of the class at C, whose own __eq__ keeps the promise sp; y of any kind -/
def rInsEqA (K : Fg) (C : Addr) (sp : Sp) (E : XK) : R2 := fun x y H Q => ∃ a dx fs t, x = .ref a ∧ H a = some (.ins C dx fs) ∧ TyX K H y t ∧ PySem.W.notFirst K C t = true ∧ sp [x, y] H Q E
theorem op_insEqA (F : FnOk X.prog X.w X.K X.mg X.base CX k f fd ps sp) (hr : Room k X.A) (hm : Meth X.K C "__eq__" f) (hb : Binds X.K fd ps []) (hx : Passes CX X E) : OpR X (compareOp .Eq) (rInsEqA X.K C sp E) := by
  intro pins s σ H x y v u Q I rx ry h
  obtain ⟨a, dx, fs, t, rfl, ha, ty, hn, q⟩ := h
  cases (show v = Value.ref a from rx)
  obtain ⟨mA, J, _⟩ := ins_get I.hok ha
  obtain ⟨od, J, _⟩ := J.look
  obtain ⟨P, kx, hp, _⟩ := kit_of I ry ty
  obtain ⟨m, hF⟩ := I.fr
  show wpAny (model X.prog X.w) X.A (richCompare .Eq (.ref a) u) (EP X pins σ Q) X.xe s
  refine PySem.W.cmp_K (op := .Eq) (tb := t) hr.units0 hF I.ok.mod.kin J (kx.ty _ _ I.kIn hp) hn hm.at_ hm.fn ?_
  refine wpAny_mono (run_fn (us := [.ref a, u]) (vs := [.ref a, y]) (dvs := []) F hr hb .nil hx I (.cons rfl (.cons ry .nil)) q) (fun w s' z => ?_) fun _ _ x => x
  obtain ⟨z', H', I', rz, qz⟩ := z
  exact SlX.cmpback rz ⟨z', H', I', rz, qz⟩
/-- x != y -/
def rInsNeA (K : Fg) (C : Addr) (sp : Sp) (E : XK) : R2 := fun x y H Q => ∃ a dx fs t, x = .ref a ∧ H a = some (.ins C dx fs) ∧ TyX K H y t ∧ PySem.W.notFirst K C t = true ∧ sp [x, y] H (fun v H' => ∃ r, v = .bl r ∧ Q (.bl (!r)) H') E
theorem op_insNeA (F : FnOk X.prog X.w X.K X.mg X.base CX k f fd ps sp) (hr : Room (k + 1) X.A) (hm : Meth X.K C "__eq__" f) (hn : PySem.W.findIn X.K (.ref C) "__ne__" = some (some (.builtin "object.__ne__")))
    (ho : PySem.W.mroIn X.K C (.type "object") = some true) (hb : Binds X.K fd ps []) (hx : Passes CX X E) : OpR X (compareOp .NotEq) (rInsNeA X.K C sp E) := by
  intro pins s σ H x y v u Q I rx ry h
  obtain ⟨a, dx, fs, t, rfl, ha, ty, hnf, q⟩ := h
  cases (show v = Value.ref a from rx)
  obtain ⟨mA, J, _⟩ := ins_get I.hok ha
  obtain ⟨od, J, _⟩ := J.look
  obtain ⟨P, kx, hp, _⟩ := kit_of I ry ty
  obtain ⟨m, hF⟩ := I.fr
  have XK := I.kIn
  show wpAny (model X.prog X.w) X.A (richCompare .NotEq (.ref a) u) (EP X pins σ Q) X.xe s
  have own : wpAny (model X.prog X.w) X.A.in1 (call (.ref f) [.ref a, u]) (fun v s' => ∃ r, v = .bool r ∧ EP X pins σ Q (.bool (!r)) s') X.xe s := by
    have hl := F.len _ _ _ _ q
    have r2 : Vals [V.ref a, y] [Value.ref a, u] := .cons rfl (.cons ry .nil)
    refine wpAny_call (codeAny_mono (F.run X.A.in1 X.stack s H ⟨[.ref a, u], []⟩ [.ref a, u] [.ref a, y] _ E hr.in1 I.env0.in1 (by
      have := hb s [.ref a, u] I.kIn (by simpa using hl)
      simpa using this) r2 q) fun r s' hq => ?_)
    cases r with
    | error e => exact hx pins σ H s e s' I hq
    | ok fl =>
      cases fl with
      | ret w =>
        obtain ⟨z, H', I', rz, r, rfl, q'⟩ := I.after hq
        cases rz
        exact ⟨r, rfl, .bl (!r), H', I', rfl, q'⟩
      | next => exact False.elim hq
      | brk => exact False.elim hq
      | cont => exact False.elim hq
  have one : wpAny (model X.prog X.w) X.A (tryCompare (.ref a) "__ne__" u) (fun r s' => ∃ v, r = some v ∧ EP X pins σ Q v s') X.xe s := by
    unfold tryCompare
    refine wpAny_bind (ne_bound XK J hn (wpAny_call (codeAny_call_builtin PySem.F.cmp_object.ne.plain PySem.F.cmpEntry_ne (@PySem.W.check_slot (model X.prog X.w) _ _ s "object.__ne__" "object" "__ne__" (.ref a) [u] [] _ PySem.F.cmpKind_ne PySem.F.cmpSplit_ne
      (J.type.andThen (PySem.W.looks_mroIn XK ho)) (PySem.F.cmpArgs_ne _ _) ?_))))
    refine ne_bodyA (s := s) XK J hm.at_ hm.fn hr.in1.units0 (wpAny_mono own (fun v s' z => ?_) fun _ _ e => e)
    obtain ⟨r, rfl, z⟩ := z
    refine ⟨r, rfl, ?_⟩
    exact wpAny_pure ⟨_, rfl, z⟩
  unfold richCompare
  simp only [oneThing_ref]
  refine wpAny_holding (wpAny_bind (wpAny_cRoomFor hr.units0 ?_))
  refine wpAny_bind (J.type.here (wpAny_bind ((kx.ty _ _ I.kIn hp).here ?_)))
  split
  · rename_i q
    have e : PySem.W.subIn X.K t (.ref C) = some false := by
      rcases Bool.or_eq_true_iff.mp hnf with e | e
      · rw [beq_iff_eq.mp e] at q; simp at q
      · exact beq_iff_eq.mp e
    refine wpAny_bind ((PySem.W.looks_subIn XK e).here ?_)
    simp only [Bool.false_eq_true, if_false]
    refine wpAny_bind (wpAny_mono one (fun r s' z => ?_) fun _ _ e => e)
    obtain ⟨v, rfl, hq⟩ := z
    exact wpAny_pure hq
  · refine wpAny_bind (wpAny_pure ?_)
    simp only [Bool.false_eq_true, if_false]
    refine wpAny_bind (wpAny_mono one (fun r s' z => ?_) fun _ _ e => e)
    obtain ⟨v, rfl, hq⟩ := z
    exact wpAny_pure hq
end
end B
/-! B: sorted(tuple of ints), xs[lo:hi:k] of a list, == of things that hold dicts, with any answer -/
namespace B
open PySem L2 PyProof.Rows
open PySem.W (Tup T3 T4 Datum DatumOrd)
open Evl (Ex)
def rSortedIT (K : Fg) : List V → Hp → VK → Prop := fun vs H Q => ∃ (a : Addr) (xs : List Int), vs = [V.ref a] ∧ SqT K H a (xs.map V.int) ∧ xs.length < 64 ∧ ∀ (ys : List Int) (p : Addr), ys.Perm xs → ys.Pairwise (· ≤ ·) → H p = none → Q (.ref p) (upd H p (.lst (ys.map V.int)))
theorem cr_sortedIT {X : Cx} : CallR X (.builtin "sorted") (rSortedIT X.K) := by
  intro pins s σ H vs us Q I r h
  obtain ⟨a, xs, rfl, hs, h64, q⟩ := h
  obtain ⟨its, rv, ⟨o, ho, hc, n, hd⟩, _⟩ := I.tuple hs
  rw [Vals.ref1 r]
  have hlen0 := rv.length
  rw [List.length_map] at hlen0
  have hS := rv.ints
  refine Calls.call_function_entry kind_sorted plain_sorted entry_sorted (args_sorted1 _) ?_
  unfold Builtin.«sorted»
  refine wpAny_bind (m := checkCount "sorted" 1 1 _) (wpAny_pure ?_)
  refine wpAny_bind (wpAny_collect_seq a (.inr rfl) ho hc hd (fun h' hk => ?_) (by rw [List.size_toArray, ← hlen0]; exact small64 h64))
  refine wpAny_bind (wpAny_newList ?_ (by show its.length ≤ _; rw [← hlen0]; exact small64 h64))
  have hoL : (h'.push (seqObj "list" its.toArray 0)).get? h'.objs.size = some (seqObj "list" its.toArray 0) := Heap.get?_push_size _ rfl
  have I1 : Inv X pins σ H { s with heap := h' } := I.kept (t' := s.toks) hk
  show wpAny _ _ _ _ _ { s with heap := h'.push (seqObj "list" its.toArray 0) }
  refine wpAny_bind (wpAny_holding (wpAny_call_entry slot_list_sort ⟨_, hoL, rfl⟩ entry_list_sort (list_sort_tree hoL hS (by rw [← hlen0]; exact h64) fun out ys h1 h2 h3 => ⟨_, rfl, ?_⟩) (args_list_sort _)))
  obtain ⟨e', he'⟩ := PyProof.Rows.sortedHeap_at (vs := its) (out := out) hoL
  have hlen : (ys.map V.int).length ≤ sizeLine := by rw [List.length_map, h2.length_eq]; exact small64 h64
  refine wpAny_pure ⟨_, rfl, .ref h'.objs.size, upd H h'.objs.size (.lst (ys.map V.int)), I1.laid (t' := s.toks) (fun b u e => ?_) (Nat.le_refl _) (show ObjOk X.prog X.w _ _ _ (.lst (ys.map V.int)) from ⟨hlen, out.toList, e', vals_of_ints h1, by rw [Array.toArray_toList]; exact he'⟩), rfl, q ys _ h2 h3 (I1.hok.fresh (Nat.le_refl _))⟩
  have hb : b < h'.objs.size := Heap.lt_size e
  show (sortedHeap _ _ _ out).get? b = _
  rw [PyProof.Rows.sortedHeap_old (Nat.ne_of_lt hb) (by rw [size_push']; exact Nat.lt_succ_of_lt hb)]
  exact Heap.get?_push_of_some _ e
theorem sortI_is {xs ys : List Int} (h1 : ys.Perm xs) (h2 : ys.Pairwise (· ≤ ·)) : ys = sortI xs := (h1.trans (sortI_perm _).symm).eq_of_pairwise (fun a b _ _ h h' => Int.le_antisymm h h') h2 (sortI_pw _)
section
variable {K : Fg} {W W' : Wd} {σ : SS} {ε : Ef} {te ta tb : TE}
theorem ev_sortIT {xs : Tup Int} (h : EvR ε K te σ W xs) (hl : xs.items.length < 64) : EvR ε K (tCB (rSortedIT K) (tCons te tNil)) σ W (sortI xs.items) := fun W1 g1 Q k => h W1 g1 _ fun v W2 g2 r => by
  obtain ⟨a, vs, e, hb, rr⟩ := rep_h r
  refine ⟨a, xs.items, by rw [e], SqT.of ?_, hl, fun ys p h1 h2 hp => ?_⟩
  · rw [← reps_int rr]; exact hb
  · rw [sortI_is h1 h2]
    exact k _ (W2.add p _) (g2.and (W2.grow_add hp)) ⟨p, _, rfl, upd_same, int_reps _⟩
theorem ev_sortIL {xs : List Int} (h : EvR ε K te σ W xs) : EvR ε K (tCB (rSortedI K) (tCons te tNil)) σ W (sortI xs) := fun W1 g1 Q k => h W1 g1 _ fun v W2 g2 r => by
  obtain ⟨a, vs, e, hb, rr⟩ := rep_h r
  refine ⟨a, xs, by rw [e], SqL.of ?_, fun ys p h1 h2 hp => ?_⟩
  · rw [← reps_int rr]; exact hb
  · rw [sortI_is h1 h2]
    exact k _ (W2.add p _) (g2.and (W2.grow_add hp)) ⟨p, _, rfl, upd_same, int_reps _⟩
end
/-! xs[lo:hi:k] of a list -/
def lsIx (lo hi : Option Int) (k : Int) (n : Nat) : List Nat := sliceRange (sliceBounds lo hi (some k) n).1 (sliceBounds lo hi (some k) n).2.1 (sliceBounds lo hi (some k) n).2.2
def pickL {α : Type} (lo hi : Option Int) (k : Int) (xs : List α) : List α := (lsIx lo hi k xs.length).filterMap fun m => xs[m]?
def tLstStep (K : PySem.W.Frag) (te : TE) (lo hi : Option Int) (k : Int) : TE := fun σ H Q => te σ H fun x H1 => ∃ a xs, x = .ref a ∧ SqL K H1 a xs ∧ ∀ p, H1 p = none → Q (.ref p) (upd H1 p (.lst (pickL lo hi k xs)))
theorem pickL_len {α : Type} (lo hi : Option Int) (k : Int) (xs : List α) : (pickL lo hi k xs).length ≤ xs.length := by
  have h := slicePick_size_le ((xs.map fun _ => Value.none).toArray) lo hi (some k)
  have e : (pickL lo hi k xs).length = (slicePick ((xs.map fun _ => Value.none).toArray) lo hi (some k)).size := by
    unfold slicePick pickL lsIx
    rw [List.size_toArray]
    simp only [List.size_toArray, List.length_map]
    generalize sliceRange _ _ _ = l
    induction l with
    | nil => rfl
    | cons m l ih =>
      cases hx : xs[m]? with
      | none => rw [List.filterMap_cons_none hx, List.filterMap_cons_none (by simp [hx])]; exact ih
      | some y => rw [List.filterMap_cons_some hx, List.filterMap_cons_some (b := Value.none) (by simp [hx])]; simp [ih]
  rw [e]
  simpa using h
theorem pe_lstStep {X : Cx} {e : Expr} {te : TE} {lo hi : Option Expr} {st : Expr} {ol oh : Option Int} {k : Int} {p3 pos : Pos} (he : PE X e te) (hl : BY.PCn X lo ol) (hh : BY.PCn X hi oh) (hk : BY.PCn X (some st) (some k)) (h0 : k ≠ 0) : PE X (.Subscript e (.Slice lo hi (some st) p3) pos) (tLstStep X.K te ol oh k) := by
  refine ⟨fun pins s σ H Q I h => ?_⟩
  refine Subscript_ (thn (he.run pins s σ H _ I h) fun v s1 ⟨x, H1, I1, r1, q1⟩ => ?_)
  obtain ⟨a, xs, ex, hx, q⟩ := q1
  subst ex
  cases r1
  refine wpAny_Slice (hl.run pins s1 σ H1 _ I1 fun vl pl s2 I2 => hh.run pins s2 σ H1 _ I2 fun vu pu s3 I3 => hk.run pins s3 σ H1 _ I3 fun vs ps s4 I4 => ?_)
  have I5 : Inv X pins σ H1 { s4 with heap := s4.heap.push { cls := .type "slice", data := .fields #[vl, vu, vs] } } := I4.kept (t' := s4.toks) fun b ob q => Heap.get?_push_of_some _ q
  obtain ⟨its, r, ht, hz⟩ := I5.list hx
  have hlen : its.toArray.size = xs.length := by rw [List.size_toArray]; exact r.length.symm
  show wpAny (model X.prog X.w) X.A (subscriptTail e (.Slice lo hi (some st) p3) (.ref a) (.ref s4.heap.objs.size)) (EP X pins σ Q) X.xe { s4 with heap := s4.heap.push { cls := .type "slice", data := .fields #[vl, vu, vs] } }
  refine tail_any (ops := [.ref a, .ref s4.heap.objs.size]) ht.isList.typeIs slot_list_getitem.lookup ?_ (by with_unfolding_all rfl)
  refine wpAny_getItem_list_slice ht.isList (Heap.IsSliceOf.new _ vl vu vs) pl pu ps (by simpa using h0) ?_ (by rw [hlen]; exact hz)
  refine ⟨.ref _, _, I5.laid (t' := s4.toks) (o := .lst (pickL ol oh k xs)) (fun b ob q => Heap.get?_push_of_some _ q) (Nat.le_refl _) ?_, rfl, q _ (I5.hok.fresh (Nat.le_refl _))⟩
  have e : slicePick its.toArray ol oh (some k) = ((lsIx ol oh k xs.length).filterMap fun m => its.toArray[m]?).toArray := by
    unfold slicePick lsIx
    rw [hlen]
  rw [e]
  exact ⟨Nat.le_trans (pickL_len _ _ _ _) hz, _, 0, BY.vals_pick r _, Heap.get?_push_size _ rfl⟩
theorem reps_pick {α : Type} [Py α] {K : Fg} {H : Hp} {us : List V} {xs : List α} (r : Reps K H us xs) : ∀ l : List Nat, Reps K H (l.filterMap fun m => us[m]?) (l.filterMap fun m => xs[m]?)
  | [] => .nil
  | m :: l => by
    have ih := reps_pick r l
    have hlen := Reps.len r
    by_cases h : m < xs.length
    · have hu : m < us.length := by omega
      rw [List.filterMap_cons_some (List.getElem?_eq_getElem hu), List.filterMap_cons_some (List.getElem?_eq_getElem h)]
      obtain ⟨v, h1, h2⟩ := Reps.get' r (List.getElem?_eq_getElem h)
      rw [List.getElem?_eq_getElem hu] at h1
      exact .cons (by rw [Option.some.inj h1]; exact h2) ih
    · rw [List.filterMap_cons_none (List.getElem?_eq_none (by omega)), List.filterMap_cons_none (List.getElem?_eq_none (by omega))]
      exact ih
theorem ev_lstStep {α : Type} [Py α] {K : Fg} {W : Wd} {σ : SS} {ε : Ef} {te : TE} {xs : List α} {lo hi : Option Int} {k : Int} (h : EvR ε K te σ W xs) : EvR ε K (tLstStep K te lo hi k) σ W (pickL lo hi k xs) := fun W1 g1 Q q => h W1 g1 _ fun v W2 g2 r => by
  obtain ⟨a, vs, e, hb, rr⟩ := r
  have hb' : W2.H a = some (.lst vs) := (W2.sub _ _ hb).elim id fun z => by
    obtain ⟨⟨_, z⟩, _⟩ := z
    cases z
  have hl : vs.length = xs.length := Reps.len rr
  refine ⟨a, vs, e, SqL.of hb', fun p hp => ?_⟩
  refine q _ (W2.add p _) (g2.and (W2.grow_add hp)) ⟨p, _, rfl, upd_same, ?_⟩
  unfold pickL
  rw [hl]
  exact reps_pick (Reps.mono (exExt (W2.grow_add hp).b) rr) _
end B
/-! == of tuples within one model -/
namespace PySem.SeqAt
open AutoSeq1 (wpAny_loadPart')
open MeetsSeq MeetsSeq2 MeetsSeq3 SeqRoads2
section
variable {prog : Program} {w : World}
theorem handS_tuple_eqIn (l b : Addr) (items items2 : Array Value) (n n2 : Nat) (dd dd2 : Option Addr) (sl sl2 : Array (Option Value)) (e : Nat → Bool) :
    MeetsIn prog w (Builtin.«tuple.__eq__» ⟨[.ref l, .ref b], []⟩)
      (fun A R s => s.heap.get? l = some { cls := .type "tuple", dict := dd, data := .seq items n, slots := sl } ∧ s.heap.get? b = some { cls := .type "tuple", dict := dd2, data := .seq items2 n2, slots := sl2 } ∧
        (∀ j (h1 : j < items.size) (h2 : j < items2.size), EqP prog w A.in1 s items[j] items2[j] (e j)) ∧
        R (.ok (.ret (.bool ((List.range (min items.size items2.size)).all e && items.size == items2.size)))) s) := MeetsIn.of_wp fun A R s h => by
  obtain ⟨hp, g, d, tk, os⟩ := s; obtain ⟨hl, hb, he, h⟩ := h
  have f2 := AutoSeq1.sub_tuple_tuple
  have hZ : (items.toList.zip items2.toList).length = min items.size items2.size := by simp
  wp_walk using wpAny_loadPart' hl, wpAny_loadPart' hb, wpAny_forIn_list _ (fun rest b s' => b.1 = none ∧ s' = ⟨hp, g, d, tk, os⟩ ∧ ∃ i, rest = (items.toList.zip items2.toList).drop i ∧
    R (.ok (.ret (.bool (((List.range (min items.size items2.size)).drop i).all e && items.size == items2.size)))) ⟨hp, g, d, tk, os⟩) _
  case turn =>
    rintro ⟨y, x⟩ rest b s' ⟨hb', rfl, i, hz, hR⟩
    have hlt : i < (items.toList.zip items2.toList).length := by
      rcases Nat.lt_or_ge i (items.toList.zip items2.toList).length with h' | h'
      · exact h'
      · rw [List.drop_of_length_le h'] at hz; cases hz
    have hm : i < min items.size items2.size := hZ ▸ hlt
    have h1 : i < items.size := Nat.lt_of_lt_of_le hm (Nat.min_le_left _ _)
    have h2 : i < items2.size := Nat.lt_of_lt_of_le hm (Nat.min_le_right _ _)
    rw [List.drop_eq_getElem_cons hlt] at hz
    injection hz with hyx hrest
    have hy : y = items[i] := by have := congrArg Prod.fst hyx; simpa using this
    have hx : x = items2[i] := by have := congrArg Prod.snd hyx; simpa using this
    subst hy hx
    have hd : (List.range (min items.size items2.size)).drop i = i :: (List.range (min items.size items2.size)).drop (i + 1) := by simp [List.drop_eq_getElem_cons, hm]
    rw [hd, List.all_cons] at hR
    refine wpAny_bind (he i h1 h2 _ _ ?_)
    cases hy : e i with
    | true =>
      rw [hy] at hR
      wp_walk
      exact ⟨rfl, rfl, i + 1, hrest, by simpa using hR⟩
    | false =>
      rw [hy] at hR
      wp_walk
      exact ⟨_, rfl, by simpa using hR⟩
  case fin =>
    rintro ⟨b1, b2⟩ s' ⟨hb', rfl, i, hz, hR⟩
    simp only at hb'
    subst hb'
    have hge : min items.size items2.size ≤ i := by
      rcases Nat.lt_or_ge i (items.toList.zip items2.toList).length with h' | h'
      · rw [List.drop_eq_getElem_cons h'] at hz; cases hz
      · exact hZ ▸ h'
    rw [List.drop_of_length_le (by simpa using hge)] at hR
    wp_walk
    exact ⟨_, rfl, by simpa [Builtin.Tuple.tupleCompareSizes] using hR⟩
  case h =>
    exact ⟨rfl, rfl, 0, rfl, by simpa using h⟩
theorem rcP_tuples {A : Around} {s : Shared} {l b : Addr} {items items2 : Array Value} {e : Nat → Bool} (hl : s.heap.IsTuple l items) (hb : s.heap.IsTuple b items2) (hu : A.units < cLine)
    (he : ∀ j (h1 : j < items.size) (h2 : j < items2.size), EqP prog w A.in1 s items[j] items2[j] (e j)) (E Q : Value → Shared → Prop) (h : Q (.bool ((List.range (min items.size items2.size)).all e && items.size == items2.size)) s) : wpAny (model prog w) A (richCompare .Eq (.ref l) (.ref b)) Q E s := by
  obtain ⟨⟨cls, dd, data, sl⟩, ho, hc, n, hd⟩ := id hl
  obtain ⟨⟨cls2, dd2, data2, sl2⟩, ho2, hc2, n2, hd2⟩ := id hb
  simp only at hc hd hc2 hd2
  subst hc hd hc2 hd2
  have ta : s.TypeIs (.ref l) "tuple" := ⟨_, ho, rfl⟩
  have tb : s.TypeIs (.ref b) "tuple" := ⟨_, ho2, rfl⟩
  exact wpAny_richCompare_same_room (op := .Eq) ta tb F.slot_tuple_eq (call_meetsIn F.slot_tuple_eq ta F.entry_tuple_eq (F.args_tuple_eq_2 _ _) (handS_tuple_eqIn l b items items2 n n2 dd dd2 sl sl2 e)
    ⟨ho, ho2, he, show Value.bool ((List.range (min items.size items2.size)).all e && items.size == items2.size) ≠ Value.notImplemented ∧ Q (.bool ((List.range (min items.size items2.size)).all e && items.size == items2.size)) s from ⟨(fun x => nomatch x), h⟩⟩) hu
end
end PySem.SeqAt

/-! the answer of == , in full -/
namespace B
open PySem L2 PyProof.Rows
open PySem.W (Tup T3 T4 Datum DatumOrd)
open Evl (Ex)
def AllB (E : V → V → Bool → Prop) : List V → List V → Bool → Prop
  | [], [], r => r = true
  | x :: xs, y :: ys, r => ∃ e r', E x y e ∧ AllB E xs ys r' ∧ r = (e && r')
  | _, _, _ => False
def HitsB (E : V → V → Bool → Prop) (ls : List (Key × V)) : List (Key × V) → Bool → Prop
  | [], r => r = true
  | p :: ks, r => (valV ls p.1 = none ∧ r = false) ∨ ∃ u e r', valV ls p.1 = some u ∧ E p.2 u e ∧ HitsB E ls ks r' ∧ r = (e && r')
def EqA1 (K : Fg) (H : Hp) (E : V → V → Bool → Prop) (x y : V) (r : Bool) : Prop :=
  ∃ a b, x = .ref a ∧ y = .ref b ∧
    ((∃ xs ys, SqL K H a xs ∧ SqL K H b ys ∧ AllB E xs ys r) ∨
     (∃ xs ys, SqT K H a xs ∧ SqT K H b ys ∧ AllB E xs ys r) ∨
     (∃ ks ls r', H a = some (.dK ks) ∧ H b = some (.dK ls) ∧ (ks.length = ls.length → HitsB E ls ks r') ∧ r = (decide (ks.length = ls.length) && r')))
def EqA (K : Fg) (H : Hp) : Nat → V → V → Bool → Prop
  | 0 => fun _ _ _ => False
  | n + 1 => fun x y r => (∃ (α : Type) (_ : DecidableEq α) (_ : Datum α) (a b : α), Dp K H x (Datum.toD a) ∧ Dp K H y (Datum.toD b) ∧ Datum.depth α ≤ n ∧ r = decide (a = b)) ∨ (EqA1 K H (EqA K H n) x y r ∧ (x = y → r = true))
theorem AllB.len {E : V → V → Bool → Prop} : ∀ {xs ys : List V} {r : Bool}, AllB E xs ys r → xs.length = ys.length
  | [], [], _, _ => rfl
  | _ :: _, _ :: _, _, ⟨_, _, _, h, _⟩ => congrArg (· + 1) h.len
  | [], _ :: _, _, h => h.elim
  | _ :: _, [], _, h => h.elim
theorem allB_run {P : Program} {w : World} {A : Around} {s : Shared} {F : V → V → Bool → Prop} (ih : ∀ x y r v u, F x y r → RelV x v → RelV y u → SeqAt.EqP P w A s v u r) :
    ∀ {xs ys : List V} {r : Bool} {us ws : List Value}, AllB F xs ys r → Vals xs us → Vals ys ws → ∃ e : Nat → Bool, (∀ j (h1 : j < us.length) (h2 : j < ws.length), SeqAt.EqP P w A s us[j] ws[j] (e j)) ∧ r = (List.range us.length).all e
  | [], [], r, us, ws, h, r1, r2 => by
    cases r1
    exact ⟨fun _ => true, fun j h1 => absurd h1 (Nat.not_lt_zero j), h⟩
  | x :: xs, y :: ys, r, us, ws, ⟨e, r', h, hs, er⟩, r1, r2 => by
    cases r1 with
    | cons a1 b1 =>
      cases r2 with
      | cons a2 b2 =>
        obtain ⟨e', k, er'⟩ := allB_run ih hs b1 b2
        refine ⟨fun j => match j with | 0 => e | j + 1 => e' j, fun j h1 h2 => ?_, ?_⟩
        · cases j with
          | zero => exact ih _ _ _ _ _ h a1 a2
          | succ j => exact k j (Nat.lt_of_succ_lt_succ h1) (Nat.lt_of_succ_lt_succ h2)
        · rw [er, er', List.length_cons, List.range_succ_eq_map, List.all_cons, List.all_map]
          rfl
  | [], _ :: _, _, _, _, h, _, _ => h.elim
  | _ :: _, [], _, _, _, h, _, _ => h.elim
theorem hitsB_run {P : Program} {w : World} {A : Around} {s : Shared} {F : V → V → Bool → Prop} (ih : ∀ x y r v u, F x y r → RelV x v → RelV y u → SeqAt.EqP P w A s v u r) {ls : List (Key × V)} {vb : List (Key × Value)} (rb : KV ls vb) :
    ∀ {ks : List (Key × V)} {va : List (Key × Value)} {r : Bool}, KV ks va → HitsB F ls ks r → PySem.W.KeqHitsP P w A s vb va r := by
  intro ks va r ra
  unfold KV at ra
  induction ra generalizing r with
  | nil => intro h; rw [show r = true from h]; exact .nil
  | @cons p q ps qs h t k =>
    intro hp
    obtain ⟨h1, h2⟩ := h
    obtain ⟨key, v⟩ := q
    have h1' : p.1 = key := h1
    rcases hp with ⟨n, e⟩ | ⟨u, e, r', hv, hE, hs, er⟩
    · have rr : RelO none (valueAt vb p.1) := by rw [← n]; exact rb.val p.1
      rw [e]
      refine .miss ?_
      rw [← h1']
      cases q : valueAt vb p.1 with
      | none => rfl
      | some z => rw [q] at rr; exact (show False from rr).elim
    · have rr : RelO (some u) (valueAt vb p.1) := by rw [← hv]; exact rb.val p.1
      obtain ⟨y, hy, ry⟩ := rr.some_of
      rw [h1'] at hy
      rw [er]
      exact .hit hy (ih _ _ _ _ _ hE h2 ry) (k hs)
section
variable {X : Cx} {pins : List (Addr × Obj)} {σ : L2.St} {H : Hp} {s : Shared}
theorem eqA1_run (I : Inv X pins σ H s) {A : Around} {F : V → V → Bool → Prop} (hu : A.units < cLine) (ih : ∀ x y r v u, F x y r → RelV x v → RelV y u → SeqAt.EqP X.prog X.w A.in1 s v u r) {x y : V} {r : Bool} {v u : Value} (h : EqA1 X.K H F x y r) (rx : RelV x v) (ry : RelV y u)
    (E Q : Value → Shared → Prop) (q : Q (.bool r) s) : wpAny (model X.prog X.w) A (richCompare .Eq v u) Q E s := by
  obtain ⟨a, b, rfl, rfl, h⟩ := h
  cases (show v = Value.ref a from rx)
  cases (show u = Value.ref b from ry)
  rcases h with ⟨xs, ys, ha, hb, hp⟩ | ⟨xs, ys, ha, hb, hp⟩ | ⟨ks, ls, r', ha, hb, hp, er⟩
  · obtain ⟨us, r1, p1, _⟩ := I.list ha
    obtain ⟨ws, r2, p2, _⟩ := I.list hb
    have hsz : us.toArray.size = ws.toArray.size := by
      rw [List.size_toArray, List.size_toArray, ← r1.length, ← r2.length]
      exact hp.len
    obtain ⟨e, k, er⟩ := allB_run ih hp r1 r2
    refine SeqAt.rcP_lists (e := e) p1.isList p2.isList hsz hu (fun j h1 h2 => ?_) E Q ?_
    · have := k j (by simpa using h1) (by simpa using h2)
      simpa using this
    · rw [List.size_toArray, ← er]
      exact q
  · obtain ⟨us, r1, p1, _⟩ := I.tuple ha
    obtain ⟨ws, r2, p2, _⟩ := I.tuple hb
    have hsz : us.length = ws.length := by
      rw [← r1.length, ← r2.length]
      exact hp.len
    obtain ⟨e, k, er⟩ := allB_run ih hp r1 r2
    refine SeqAt.rcP_tuples (e := e) p1 p2 hu (fun j h1 h2 => ?_) E Q ?_
    · have := k j (by simpa using h1) (by simpa using h2)
      simpa using this
    · rw [List.size_toArray, List.size_toArray, ← hsz, Nat.min_self, beq_self_eq_true, Bool.and_true, ← er]
      exact q
  · obtain ⟨_, ya, va, ra, da⟩ := (show ObjOk X.prog X.w H s.heap a (.dK ks) from I.hok a _ ha)
    obtain ⟨_, yb, vb, rb, db⟩ := (show ObjOk X.prog X.w H s.heap b (.dK ls) from I.hok b _ hb)
    have la : va.length = ks.length := ra.length.symm
    have lb : vb.length = ls.length := rb.length.symm
    refine PySem.W.rcP_dicts (knd := mixKind X.prog X.w) (r := r') ya yb da db hu (fun e => hitsB_run ih rb ra (hp (by rw [← la, ← lb]; exact e))) E Q ?_
    rw [show (va.length == vb.length && r') = r from by rw [er, la, lb]; rfl]
    exact q
theorem eqA_run (I : Inv X pins σ H s) : ∀ (n : Nat) (A : Around), A.units + n < cLine → ∀ (x y : V) (r : Bool) (v u : Value), EqA X.K H n x y r → RelV x v → RelV y u → SeqAt.EqP X.prog X.w A s v u r
  | 0, _, _, _, _, _, _, _, h, _, _ => (show False from h).elim
  | n + 1, A, hu, x, y, r, v, u, h, rx, ry => by
    rcases h with ⟨α, _, _, a, b, ha, hb, hd, er⟩ | ⟨h, same⟩
    · rw [er]
      exact (PySem.W.eqAt_datum (holds_of I ha rx) (holds_of I hb ry) (by omega)).eqP
    · have step := eqA1_run I (A := A) (by omega) (eqA_run I n A.in1 (by show A.units + 1 + n < cLine; omega)) h rx ry
      obtain ⟨a, b, rfl, rfl, _⟩ := h
      cases (show v = Value.ref a from rx)
      cases (show u = Value.ref b from ry)
      by_cases e : a = b
      · subst e
        rw [same rfl]
        exact (SeqAt.EqAt.same _).eqP
      · exact SeqAt.eqP_refs e step
end
section
variable {X : Cx}
/-- a == b, where dicts lie within -/
def rEqQ (K : Fg) : R2 := fun x y H Q => ∃ n r, n ≤ 60 ∧ EqA1 K H (EqA K H n) x y r ∧ Q (.bl r) H
theorem op_eqQ (hu : X.A.units + 64 < cLine) : OpR X (compareOp .Eq) (rEqQ X.K) := by
  intro pins s σ H x y v u Q I rx ry h
  obtain ⟨n, r, hn, h, q⟩ := h
  exact eqA1_run I (A := X.A) (by omega) (eqA_run I n X.A.in1 (by show X.A.units + 1 + n < cLine; omega)) h rx ry _ _ ⟨.bl r, H, I, rfl, q⟩
/-- d != e, two dicts -/
def rNeQ (K : Fg) : R2 := fun x y H Q => ∃ n a b ks ls r', n ≤ 60 ∧ x = .ref a ∧ y = .ref b ∧ H a = some (.dK ks) ∧ H b = some (.dK ls) ∧ (ks.length = ls.length → HitsB (EqA K H n) ls ks r') ∧ Q (.bl (!(decide (ks.length = ls.length) && r'))) H
theorem rcP_dictsNe {prog : Program} {w : World} {κ : Type} [DecidableEq κ] {knd : KeyKind prog w κ} {A : Around} {s : Shared} {a b : Addr} {ka kb : List (κ × Value)} {r : Bool} (ha : (a == sysModules) = false) (hb : (b == sysModules) = false)
    (da : s.heap.DictOf knd a ka) (db : s.heap.DictOf knd b kb) (hu : A.units < cLine) (hits : ka.length = kb.length → PySem.W.KeqHitsP prog w A.in1 s kb ka r) (E Q : Value → Shared → Prop) (h : Q (.bool (!(ka.length == kb.length && r))) s) : wpAny (model prog w) A (compareOp .NotEq (.ref a) (.ref b)) Q E s := by
  refine wpAny_richCompare_same_room (op := .NotEq) da.typeIs db.typeIs PySem.F.slot_dict_ne (wpAny_call_entry PySem.F.slot_dict_ne da.typeIs PySem.F.entry_dict_ne ?_ (PySem.F.args_dict_ne_2 _ _)) hu
  show wpAny _ _ (Builtin.Dict.dictSlotArgs "__ne__" ⟨[.ref a, .ref b], []⟩ >>= _) _ _ s
  refine wpAny_bind ?_
  unfold Builtin.Dict.dictSlotArgs
  refine wpAny_bind (wpAny_notOrdered_dict da.typeIs ?_)
  show wpAny _ _ (pure (Value.ref a, Value.ref b)) _ _ s
  refine wpAny_pure ?_
  refine wpAny_bind (wpAny_isInstance (T := "dict") db.typeIs PySem.F.sub_dict_dict ?_)
  simp only [Bool.not_true, Bool.false_eq_true, if_false]
  refine wpAny_bind (wpAny_pure (wpAny_bind (wpAny_pure ?_)))
  refine wpAny_bind (PySem.W.samePairsP ha hb da db hits ?_)
  refine wpAny_pure ⟨_, rfl, ?_, ?_⟩
  · exact fun x => nomatch x
  · simpa using h
theorem op_neQ (hu : X.A.units + 64 < cLine) : OpR X (compareOp .NotEq) (rNeQ X.K) := by
  intro pins s σ H x y v u Q I rx ry h
  obtain ⟨n, a, b, ks, ls, r', hn, rfl, rfl, ha, hb, hp, q⟩ := h
  cases (show v = Value.ref a from rx)
  cases (show u = Value.ref b from ry)
  obtain ⟨_, ya, va, ra, da⟩ := (show ObjOk X.prog X.w H s.heap a (.dK ks) from I.hok a _ ha)
  obtain ⟨_, yb, vb, rb, db⟩ := (show ObjOk X.prog X.w H s.heap b (.dK ls) from I.hok b _ hb)
  have la : va.length = ks.length := ra.length.symm
  have lb : vb.length = ls.length := rb.length.symm
  have ih := eqA_run (A := X.A.in1) I n
  refine rcP_dictsNe (knd := mixKind X.prog X.w) (r := r') ya yb da db (by omega) (fun e => hitsB_run (eqA_run I n X.A.in1 (by show X.A.units + 1 + n < cLine; omega)) rb ra (hp (by rw [← la, ← lb]; exact e))) _ _ ?_
  rw [show (va.length == vb.length && r') = (decide (ks.length = ls.length) && r') from by rw [la, lb]; rfl]
  exact ⟨.bl _, H, I, rfl, q⟩
end
end B
/-! B: x not in a list of texts, x a thing of any kind -/
namespace PySem
namespace SeqAt
open AutoSeq1 (wpAny_loadPart')
open MeetsSeq
open PySem.Calls Builtin
theorem str_declines_dict (b : Str) (u : Tok) (l : Addr) (es : Array DictEntry) (n : Nat) (dd : Option Addr) (sl : Array (Option Value)) :
    Meets (Builtin.«str.__eq__» ⟨[.str b u, .ref l], []⟩) (fun _ R s => s.heap.get? l = some { cls := .type "dict", dict := dd, data := .dict es n, slots := sl } ∧ R (.ok (.ret .notImplemented)) s) :=
  .of_wp fun prog w A R s h => by
    obtain ⟨hp, g, d, tk, os⟩ := s
    obtain ⟨hl, h⟩ := h
    wp_walk using wpAny_loadPart' hl, wpAny_load hl
    exact ⟨_, rfl, h⟩
theorem dict_declines_str (l : Addr) (es : Array DictEntry) (n : Nat) (dd : Option Addr) (sl : Array (Option Value)) (b : Str) (u : Tok) :
    Meets (Builtin.«dict.__eq__» ⟨[.ref l, .str b u], []⟩) (fun _ R s => s.heap.get? l = some { cls := .type "dict", dict := dd, data := .dict es n, slots := sl } ∧ R (.ok (.ret .notImplemented)) s) :=
  .of_wp fun prog w A R s h => by
    obtain ⟨hp, g, d, tk, os⟩ := s
    obtain ⟨hl, h⟩ := h
    have f1 := F.sub_str_dict
    wp_walk using wpAny_loadPart' hl
    exact ⟨_, rfl, h⟩
theorem eq_str_dict {A : Around} {s : Shared} {l : Addr} {o : Obj} {es : Array DictEntry} {n : Nat} (b : Str) (u : Tok) (ho : s.heap.get? l = some o) (hc : o.cls = .type "dict") (hd : o.data = .dict es n) (hu : A.units < cLine) : EqAt A s (.str b u) (.ref l) false := fun prog w E Q h => by
  obtain ⟨cls, dd, data, sl⟩ := o
  simp only at hc hd
  subst hc hd
  unfold eqBool
  refine wpAny_holding ?_
  refine wpAny_ite_split (fun hab => absurd (eq_of_beq hab) nofun) (fun _ => ?_)
  refine wpAny_bind ?_
  exact rc_eq_decline_or (k := false) (typeIs_str s b u) ⟨_, ho, rfl⟩ (by decide) F.sub_dict_str F.slot_str_eq F.slot_dict_eq_refl
    (fun _ hq => call_meets F.slot_str_eq (typeIs_str s b u) F.entry_str_eq (F.args_str_eq_2 _ _) (str_declines_dict b u l es n dd sl) ⟨ho, hq⟩)
    (fun _ hq => call_meets F.slot_dict_eq_refl ⟨_, ho, rfl⟩ F.entry_dict_eq (F.args_dict_eq_2 _ _) (dict_declines_str l es n dd sl b u) ⟨ho, hq⟩)
    (fun _ hq => wpAny_of_eq (rfl : isSame (.str b u) (.ref l) = pure false) hq) (.inr hu) (wpAny_truthy_bool h)
end SeqAt
end PySem
namespace B
open PySem PySem.Spec PyProof.Rows L2
/-- a thing that is no text -/
def NotS (K : Fg) (H : Hp) (x : V) : Prop := x = .non ∨ (∃ b, x = .bl b) ∨ (∃ i, x = .int i) ∨ (∃ a xs, x = .ref a ∧ SqL K H a xs) ∨ (∃ a xs, x = .ref a ∧ SqT K H a xs) ∨ (∃ a ks, x = .ref a ∧ Rd H a (.dK ks))
/-- x not in ys, x a thing of any kind, ys texts -/
def rNinX (K : Fg) : R2 := fun x y H Q => rInTL K true x y H Q ∨ (NotS K H x ∧ ∃ (a : Addr) (ss : List Str), y = .ref a ∧ SqL K H a (ss.map V.str) ∧ Q (.bl true) H)
theorem vals_strs : ∀ {ss : List Str} {us : List Value}, Vals (ss.map V.str) us → ∀ u ∈ us, ∃ s t, u = .str s t
  | [], _, .nil, u, h => by cases h
  | s :: ss, _, .cons r rs, u, h => by
    rcases List.mem_cons.mp h with rfl | h
    · obtain ⟨t, e⟩ := r
      exact ⟨s, t, e⟩
    · exact vals_strs rs u h
theorem op_ninX {X : Cx} (hu : X.A.units + 64 < cLine) : OpR X (compareOp .NotIn) (rNinX X.K) := by
  intro pins s σ H x y v u Q I rx ry h
  rcases h with h | ⟨hn, a, ss, rfl, hl, q⟩
  · exact op_notInTL hu pins s σ H x y v u Q I rx ry h
  obtain rfl : u = Value.ref a := ry
  obtain ⟨its, rv, ⟨o, n, ho, hc, _, hd⟩, _⟩ := I.list hl
  have allS := vals_strs rv
  have hu1 : X.A.in1.units < cLine := by show X.A.units + 1 < _; omega
  have fin : ∀ {v : Value}, (∀ y, y ∈ its.toArray → SeqAt.EqAt X.A.in1 s y v false) → wpAny (model X.prog X.w) X.A (compareOp .NotIn v (.ref a)) (EP X pins σ Q) X.xe s := fun {v} he =>
    SeqAt.notIn_listAt (fun _ => false) ⟨o, ho, hc, n, hd⟩ he (by
      rw [show (its.toArray.any fun _ => false) = false by simp]
      exact ⟨.bl true, H, I, rfl, q⟩)
  have at_ : ∀ {y : Value}, y ∈ its.toArray → ∃ s t, y = .str s t := fun h => allS _ (by simpa using h)
  rcases hn with rfl | ⟨b, rfl⟩ | ⟨i, rfl⟩ | ⟨c, xs, rfl, hs⟩ | ⟨c, xs, rfl, hs⟩ | ⟨c, ks, rfl, hs⟩
  · obtain rfl : v = Value.none := rx
    exact fin fun y hy => by obtain ⟨s', t, rfl⟩ := at_ hy; exact SeqAt.EqAt.str_none _ _
  · obtain rfl : v = Value.bool b := rx
    exact fin fun y hy => by obtain ⟨s', t, rfl⟩ := at_ hy; exact SeqAt.EqAt.str_bool _ _ _
  · obtain ⟨t2, rfl⟩ := rx
    exact fin fun y hy => by obtain ⟨s', t, rfl⟩ := at_ hy; exact SeqAt.EqAt.str_int _ _ _ _
  · obtain rfl : v = Value.ref c := rx
    obtain ⟨its2, _, ⟨o2, n2, ho2, hc2, _, hd2⟩, _⟩ := I.list hs
    exact fin fun y hy => by obtain ⟨s', t, rfl⟩ := at_ hy; exact SeqAt.EqAt.str_list _ _ ⟨o2, ho2, hc2, n2, hd2⟩ hu1
  · obtain rfl : v = Value.ref c := rx
    obtain ⟨its2, _, ⟨o2, ho2, hc2, n2, hd2⟩, _⟩ := I.tuple hs
    exact fin fun y hy => by obtain ⟨s', t, rfl⟩ := at_ hy; exact SeqAt.EqAt.str_tuple _ _ ⟨o2, ho2, hc2, n2, hd2⟩ hu1
  · obtain rfl : v = Value.ref c := rx
    obtain ⟨_, _, vs, _, o2, es, ep, ho2, ex, hd2, _⟩ := dk_rd I.hok hs
    exact fin fun y hy => by obtain ⟨s', t, rfl⟩ := at_ hy; exact SeqAt.eq_str_dict _ _ ho2 ex.1 hd2 hu1
end B
/-! B: methods called within a try -/
namespace B
open PySem PySem.Spec PyProof.Rows L2
/-- o.m(e, .., k = v, ..) within a try -/
def tMethNS (C : Addr) (m : Str) (n j : Nat) (sp : Sp) (gV : List V → List V → List V) (E : L2.St → XK) (to : TE) (t tk : TA) : TE := fun σ H Q => to σ H fun x H1 => ∃ a dx fs, x = .ref a ∧ H1 a = some (.ins C dx fs) ∧ fs.lookup m = none ∧
  t σ H1 fun vs H2 => tk σ H2 fun zs H3 => vs.length = n ∧ zs.length = j ∧ sp (gV (x :: vs) zs) H3 Q (E σ)
/-- o.m(e, ..) within a try -/
def tMethTS (C : Addr) (m : Str) (sp : Sp) (E : L2.St → XK) (to : TE) (t : TA) : TE := fun σ H Q => to σ H fun x H1 => ∃ a dx fs, x = .ref a ∧ H1 a = some (.ins C dx fs) ∧ fs.lookup m = none ∧ t σ H1 fun vs H2 => sp (x :: vs) H2 Q (E σ)
section
variable {X : Cx} {CX : CXT} {k n j : Nat} {f C : Addr} {fd : FuncData} {ps ks : List Str} {sp : Sp} {E : L2.St → XK} {o e : Expr} {es : List Expr} {to : TE} {t tk : TA} {kws : List Keyword} {m : Str} {apos pos : Pos} {gV : List V → List V → List V}
theorem run_fnNS {g : List Value → List Value → List Value} {pins : List (Addr × Obj)} {σ : L2.St} {H : Hp} {s : Shared} {Q : VK} {us ws : List Value} {vs zs : List V} (F : FnOk X.prog X.w X.K X.mg X.base CX k f fd ps sp) (hr : Room k X.A) (hb : KBn X.K fd ps n ks g gV) (hx : PassesAt CX X σ (E σ))
    (I : Inv X pins σ H s) (r : Vals vs us) (rz : Vals zs ws) (l1 : vs.length = n) (l2 : zs.length = ks.length) (h : sp (gV vs zs) H Q (E σ)) : wpAny (model X.prog X.w) X.A (call (.ref f) us (ks.zip ws)) (EP X pins σ Q) X.xe s := by
  have r2 := hb.rel r rz
  refine wpAny_call (codeAny_mono (F.run X.A X.stack s H ⟨us, ks.zip ws⟩ (g us ws) (gV vs zs) Q (E σ) hr I.env0 (hb.to s us ws I.kIn (r.length.symm.trans l1) (rz.length.symm.trans l2)) r2 h) fun r s' hq => ?_)
  cases r with
  | error e => exact hx pins H s e s' I hq
  | ok fl =>
    cases fl with
    | ret u => exact I.after hq
    | next => exact False.elim hq
    | brk => exact False.elim hq
    | cont => exact False.elim hq
theorem pe_methNS {pl : Sem Bool} (he : PE X o to) (c : Cls X.K C) (hm : Meth X.K C m f) (F : FnOk X.prog X.w X.K X.mg X.base CX k f fd ps sp) (hr : Room k X.A) (hb : ∃ g, KBn X.K fd ps (n + 1) ks g gV) (hx : ∀ σ, PassesAt CX X σ (E σ)) (ha : PA X (e :: es) t)
    (hkw : PK X kws tk) (hall : (backToKw pos (keywordEach kws X.env)).all (·.1.isSome) = true := by rfl) (hks : (backToKw pos (keywordEach kws X.env)).filterMap (·.1) = ks := by rfl)
    (hn : j = ks.length := by rfl) (hpl : ((backTo pos (starEach (e :: es) X.env)).any (·.1) || (backToKw pos (keywordEach kws X.env)).any (·.1.isNone)) = false := by rfl) (hs : starEach (e :: es) X.env = (false, eval e X.env) :: starEach es X.env := by rfl)
    (ht : eval (.Call (.Attribute o m apos) (e :: es) kws pos) X.env = (eval o X.env >>= fun ov => standAt apos.atName >>= fun _ => holding [ov] (getMethod ov m pl) >>= fun fx => callWith pos fx.1 fx.2 (backTo pos (starEach (e :: es) X.env)) (backToKw pos (keywordEach kws X.env))) := by rfl) :
    PE X (.Call (.Attribute o m apos) (e :: es) kws pos) (tMethNS C m n j sp gV E to t tk) := by
  subst hn
  obtain ⟨g, hb⟩ := hb
  refine ⟨fun pins s σ H Q I h => PySem.W.methodCall_KW (pl := pl) (thn (he.run pins s σ H _ I h) fun u s1 ⟨x, H1, I1, rx, a, dx, fs, ex, ea, lk, q⟩ => ?_) ht⟩
  subst ex
  obtain rfl : u = Value.ref a := rx
  refine getmeth_ok I1 ea c hm lk (PySem.W.callWith_KW (first := [.ref a]) (h₀ := X.base) I.ok.mod.kin hm.kp hall (thn (ha.run pos pins s1 σ H1 _ I1 q) fun us s2 ⟨vs, H2, I2, r, q2⟩ => thn (hkw.run pos pins s2 σ H2 _ I2 q2) fun ws s3 ⟨zs, H3, I3, rz, l1, l2, q3⟩ => ⟨I3.kIn, ?_⟩) hpl hs)
  rw [hks]
  exact run_fnNS (vs := .ref a :: vs) F hr hb (hx σ) I3 (.cons rfl r) rz (by rw [List.length_cons, l1]) l2 q3
theorem pe_methTS {pl : Sem Bool} (he : PE X o to) (c : Cls X.K C) (hm : Meth X.K C m f) (F : FnOk X.prog X.w X.K X.mg X.base CX k f fd ps sp) (hr : Room k X.A) (hb : Binds X.K fd ps []) (hx : ∀ σ, PassesAt CX X σ (E σ)) (ha : PA X (e :: es) t)
    (hst : starEach (e :: es) X.env = (false, eval e X.env) :: starEach es X.env := by rfl) (hpl : (backTo pos (starEach es X.env)).any (·.1) = false := by rfl)
    (ht : eval (.Call (.Attribute o m apos) (e :: es) [] pos) X.env = (do
      let ov ← eval o X.env
      standAt apos.atName
      let (f, first) ← holding [ov] (getMethod ov m pl)
      callWith pos f first (backTo pos (starEach (e :: es) X.env)) (backToKw pos (keywordEach [] X.env))) := by rfl) :
    PE X (.Call (.Attribute o m apos) (e :: es) [] pos) (tMethTS C m sp E to t) := by
  refine ⟨fun pins s σ H Q I h => ?_⟩
  refine PySem.W.methodCall_KW (pl := pl) (thn (he.run pins s σ H _ I h) fun u s1 ⟨x, H1, I1, rx, a, dx, fs, ex, ea, l, q⟩ => ?_) ht
  subst ex
  obtain rfl : u = Value.ref a := rx
  refine getmeth_ok I1 ea c hm l ?_
  refine PySem.W.callWith_K (first := [.ref a]) (h₀ := X.base) I.ok.mod.kin hm.kp (thn (ha.run pos pins s1 σ H1 _ I1 q) fun us s2 ⟨vs, H2, I2, r, q2⟩ => ⟨I2.kIn, ?_⟩) hst hpl
  exact run_fnS (us := .ref a :: us) (vs := .ref a :: vs) F hr hb (hx σ) I2 (.cons rfl r) q2
end
end B
/-! B: one of two readings; try without a name -/
namespace B
open PySem L2
/-- what either of two readings tells -/
def tOrE (t1 t2 : TE) : TE := fun σ H Q => t1 σ H Q ∨ t2 σ H Q
theorem pe_orE {X : Cx} {e : Expr} {t1 t2 : TE} (h1 : PE X e t1) (h2 : PE X e t2) : PE X e (tOrE t1 t2) := ⟨fun pins s σ H Q I h => h.elim (fun h => h1.run pins s σ H Q I h) fun h => h2.run pins s σ H Q I h⟩
/-- try: body, except C: suite -/
abbrev tTryN (K : PySem.W.Frag) (C : Addr) (tb : WX → TS) (ts : Addr → Value → Option Addr → TS) : TS := fun D σ H => tb (wOnly K (.ref C) ts (fun _ _ _ _ => False) D) D σ H
def rOrR (r1 r2 : R2) : R2 := fun x y H Q => r1 x y H Q ∨ r2 x y H Q
theorem op_orR {X : Cx} {f : Value → Value → Sem Value} {r1 r2 : R2} (h1 : OpR X f r1) (h2 : OpR X f r2) : OpR X f (rOrR r1 r2) := OpR.or h1 h2
/-- d[k] = .. as a target -/
def rSetD : V → V → V → Hp → (Hp → Prop) → Prop := fun o i v H Q => ∃ a H4, o = .ref a ∧ DPut H a i v H4 ∧ Q H4
theorem set_dictB {X : Cx} (hu : X.A.units + 64 < cLine) : PSet X rSetD := by
  intro pins s σ H o i v ov iv u Q I ro ri rv h
  obtain ⟨a, H4, rfl, g, q⟩ := h
  cases ro
  exact d_setItem (Nat.lt_of_le_of_lt (by omega) hu) I g ri rv fun s' I' => ⟨H4, I', q⟩
/-- f(e, .., k = v, ..) -/
def tCallN (n j : Nat) (sp : Sp) (gV : List V → List V → List V) (E : XK) (t tk : TA) : TE := fun σ H Q => t σ H fun vs H2 => tk σ H2 fun zs H3 => vs.length = n ∧ zs.length = j ∧ sp (gV vs zs) H3 Q E
theorem pe_callN {X : Cx} {CX : CXT} {k n j : Nat} {f : Addr} {fd : FuncData} {ps ks : List Str} {sp : Sp} {E : XK} {x : Str} {p pos : Pos} {e : Expr} {es : List Expr} {kws : List Keyword} {t tk : TA} {gV : List V → List V → List V}
    (F : FnOk X.prog X.w X.K X.mg X.base CX k f fd ps sp) (hr : Room k X.A) (hg : Gl X x) (hm : X.mg x = some (.ref f)) (hk : PySem.W.keepIn X.K (.ref f) = true) (hb : ∃ g, KBn X.K fd ps n ks g gV) (hx : Passes CX X E) (ha : PA X (e :: es) t)
    (hkw : PK X kws tk) (hall : (backToKw pos (keywordEach kws X.env)).all (·.1.isSome) = true := by rfl) (hks : (backToKw pos (keywordEach kws X.env)).filterMap (·.1) = ks := by rfl)
    (hn : j = ks.length := by rfl) (hdb : (x == ("__debug__" : Str)) = false := by decide)
    (hpl : ((backTo pos (starEach (e :: es) X.env)).any (·.1) || (backToKw pos (keywordEach kws X.env)).any (·.1.isNone)) = false := by rfl) (hs : starEach (e :: es) X.env = (false, eval e X.env) :: starEach es X.env := by rfl) :
    PE X (.Call (.Name x p) (e :: es) kws pos) (tCallN n j sp gV E t tk) := by
  subst hn
  obtain ⟨g, hb⟩ := hb
  refine ⟨fun pins s σ H Q I h => ?_⟩
  refine wpAny_Call_Name_kw (ld_glob I hg hm ?_ hdb)
  refine PySem.W.callWith_KW (first := []) (h₀ := X.base) I.ok.mod.kin hk hall (thn (ha.run pos pins s σ H _ I h) fun us s2 ⟨vs, H2, I2, r, q2⟩ => thn (hkw.run pos pins s2 σ H2 _ I2 q2) fun ws s3 ⟨zs, H3, I3, rz, l1, l2, q3⟩ => ⟨I3.kIn, ?_⟩) hpl hs
  rw [hks]
  exact run_fnN (vs := vs) F hr hb hx I3 r rz l1 l2 q3
/-- o.m(k = v, ..) within a try -/
theorem pe_methNS0 {X : Cx} {CX : CXT} {k j : Nat} {f C : Addr} {fd : FuncData} {ps ks : List Str} {sp : Sp} {E : L2.St → XK} {o : Expr} {to : TE} {tk : TA} {kws : List Keyword} {m : Str} {apos pos : Pos} {gV : List V → List V → List V} {pl : Sem Bool}
    (he : PE X o to) (c : Cls X.K C) (hm : Meth X.K C m f) (F : FnOk X.prog X.w X.K X.mg X.base CX k f fd ps sp) (hr : Room k X.A) (hb : ∃ g, KBn X.K fd ps 1 ks g gV) (hx : ∀ σ, PassesAt CX X σ (E σ))
    (hkw : PK X kws tk) (hall : (backToKw pos (keywordEach kws X.env)).all (·.1.isSome) = true := by rfl) (hks : (backToKw pos (keywordEach kws X.env)).filterMap (·.1) = ks := by rfl)
    (hn : j = ks.length := by rfl) (hpl : ((backTo pos (starEach [] X.env)).any (·.1) || (backToKw pos (keywordEach kws X.env)).any (·.1.isNone)) = false := by rfl)
    (ht : eval (.Call (.Attribute o m apos) [] kws pos) X.env = (eval o X.env >>= fun ov => standAt apos.atName >>= fun _ => holding [ov] (getMethod ov m pl) >>= fun fx => callWith pos fx.1 fx.2 (backTo pos (starEach [] X.env)) (backToKw pos (keywordEach kws X.env))) := by rfl) :
    PE X (.Call (.Attribute o m apos) [] kws pos) (tMethNS C m 0 j sp gV E to tNil tk) := by
  subst hn
  obtain ⟨g, hb⟩ := hb
  refine ⟨fun pins s σ H Q I h => PySem.W.methodCall_KW (pl := pl) (thn (he.run pins s σ H _ I h) fun u s1 ⟨x, H1, I1, rx, a, dx, fs, ex, ea, lk, q⟩ => ?_) ht⟩
  subst ex
  obtain rfl : u = Value.ref a := rx
  refine getmeth_ok I1 ea c hm lk (PySem.W.callWith_KW0 (first := [.ref a]) (h₀ := X.base) I.ok.mod.kin hm.kp hall (thn (hkw.run pos pins s1 σ H1 _ I1 q) fun ws s2 ⟨zs, H2, I2, rz, _, hl, q2⟩ => ⟨I2.kIn, ?_⟩) hpl)
  rw [hks]
  exact run_fnNS (vs := [.ref a]) F hr hb (hx σ) I2 (.cons rfl .nil) rz rfl hl q2
end B
/-! != of lists within one model -/
namespace PySem.SeqAt
open AutoSeq1 (wpAny_loadPart')
open MeetsSeq MeetsSeq2 MeetsSeq3 SeqRoads2
section
variable {prog : Program} {w : World}
theorem handS_ne_loopIn (l b : Addr) (items items2 : Array Value) (n n2 : Nat) (dd dd2 : Option Addr) (sl sl2 : Array (Option Value)) (hsz : items.size = items2.size) (e : Nat → Bool) (k : Nat) :
    ∀ i : Nat, items.size - i = k → MeetsIn prog w (Builtin.«list.__eq__.loop» ⟨[.ref l, .ref b, rawInt i, rawInt 3], []⟩)
      (fun A R s => s.heap.get? l = some { cls := .type "list", dict := dd, data := .seq items n, slots := sl } ∧ s.heap.get? b = some { cls := .type "list", dict := dd2, data := .seq items2 n2, slots := sl2 } ∧
        (∀ j (h1 : j < items.size) (h2 : j < items2.size), EqP prog w A.in1 s items[j] items2[j] (e j)) ∧
        R (.ok (.ret (.bool (!((List.range items.size).drop i).all e)))) s) := by
  induction k with
  | zero =>
    intro i hk A R s h
    obtain ⟨hp, g, d, tk, os⟩ := s; obtain ⟨hl, hb, he, h⟩ := h
    wp_walk using wpAny_loadPart' hl, wpAny_loadPart' hb
    have hi1 : items[((i : Nat) : Int).toNat]? = none := by simp; omega
    have hi2 : items2[((i : Nat) : Int).toNat]? = none := by simp; omega
    have hd : (List.range items.size).drop i = [] := by simp; omega
    rw [hd] at h
    rw [hi1, hi2]
    wp_walk using wpAny_loadPart' hl, wpAny_loadPart' hb
    show R (.ok (.ret (.bool (items.size != items2.size)))) _
    rw [hsz]
    simpa using h
  | succ k ih =>
    intro i hk A R s h
    obtain ⟨hp, g, d, tk, os⟩ := s; obtain ⟨hl, hb, he, h⟩ := h
    wp_walk using wpAny_loadPart' hl, wpAny_loadPart' hb
    have hlt : i < items.size := by omega
    have hlt2 : i < items2.size := by omega
    have hi1 : items[((i : Nat) : Int).toNat]? = some items[i] := by simp [hlt]
    have hi2 : items2[((i : Nat) : Int).toNat]? = some items2[i] := by simp [hlt2]
    have hd : (List.range items.size).drop i = i :: (List.range items.size).drop (i + 1) := by simp [List.drop_eq_getElem_cons, hlt]
    have hc : ((i : Int) + 1) = ((i + 1 : Nat) : Int) := by push_cast; rfl
    rw [hd, List.all_cons] at h
    rw [hi1, hi2]
    refine wpAny_bind (he i hlt hlt2 _ _ ?_)
    cases hb' : e i with
    | true =>
      rw [hb'] at h
      wp_walk
      rw [hc]
      exact ⟨plainId_quiet plain_eq_loop _, codeAny_builtin entry_eq_loop (by
        rw [Around.under_plainId plain_eq_loop _]
        exact ih (i + 1) (by omega) A R _ ⟨hl, hb, he, by simpa using h⟩)⟩
    | false =>
      rw [hb'] at h
      wp_walk using wpAny_loadPart' hl, wpAny_loadPart' hb
      rw [hi1, hi2]
      wp_walk
      simpa using h

theorem handS_list_neIn (l b : Addr) (items items2 : Array Value) (n n2 : Nat) (dd dd2 : Option Addr) (sl sl2 : Array (Option Value)) (hsz : items.size = items2.size) (e : Nat → Bool) :
    MeetsIn prog w (Builtin.«list.__ne__» ⟨[.ref l, .ref b], []⟩)
      (fun A R s => s.heap.get? l = some { cls := .type "list", dict := dd, data := .seq items n, slots := sl } ∧ s.heap.get? b = some { cls := .type "list", dict := dd2, data := .seq items2 n2, slots := sl2 } ∧
        (∀ j (h1 : j < items.size) (h2 : j < items2.size), EqP prog w A.in1 s items[j] items2[j] (e j)) ∧
        R (.ok (.ret (.bool (!(List.range items.size).all e)))) s) := by
  intro A R s h
  obtain ⟨hp, g, d, tk, os⟩ := s; obtain ⟨hl, hb, he, h⟩ := h
  have f3 := AutoSeq1.sub_list_list
  have hne : ¬ (items.size != items2.size) = true := by simp [hsz]
  wp_walk using wpAny_loadPart' hl, wpAny_loadPart' hb
  exact ⟨plainId_quiet plain_eq_loop _, codeAny_builtin entry_eq_loop (by
    rw [Around.under_plainId plain_eq_loop _]
    exact handS_ne_loopIn l b items items2 n n2 dd dd2 sl sl2 hsz e _ 0 rfl A R _ ⟨hl, hb, he, by simpa using h⟩)⟩

theorem rcP_listsNe {A : Around} {s : Shared} {l b : Addr} {items items2 : Array Value} {e : Nat → Bool} (hl : s.heap.IsList l items) (hb : s.heap.IsList b items2) (hsz : items.size = items2.size) (hu : A.units < cLine)
    (he : ∀ j (h1 : j < items.size) (h2 : j < items2.size), EqP prog w A.in1 s items[j] items2[j] (e j)) (E Q : Value → Shared → Prop) (h : Q (.bool (!(List.range items.size).all e)) s) : wpAny (model prog w) A (richCompare .NotEq (.ref l) (.ref b)) Q E s := by
  obtain ⟨⟨cls, dd, data, sl⟩, ho, hc, n, hd⟩ := id hl
  obtain ⟨⟨cls2, dd2, data2, sl2⟩, ho2, hc2, n2, hd2⟩ := id hb
  simp only at hc hd hc2 hd2
  subst hc hd hc2 hd2
  have ta : s.TypeIs (.ref l) "list" := ⟨_, ho, rfl⟩
  have tb : s.TypeIs (.ref b) "list" := ⟨_, ho2, rfl⟩
  exact wpAny_richCompare_same_room (op := .NotEq) ta tb F.slot_list_ne (call_meetsIn F.slot_list_ne ta F.entry_list_ne (F.args_list_ne_2 _ _) (handS_list_neIn l b items items2 n n2 dd dd2 sl sl2 hsz e)
    ⟨ho, ho2, he, show Value.bool (!(List.range items.size).all e) ≠ Value.notImplemented ∧ Q (.bool (!(List.range items.size).all e)) s from ⟨(fun x => nomatch x), h⟩⟩) hu
end
end PySem.SeqAt
namespace B
open PySem L2 PyProof.Rows
section
variable {X : Cx}
/-- a != b: two texts, or two lists where dicts lie within -/
def rNeW (K : Fg) : R2 := fun x y H Q => (∃ i j : Str, x = .str i ∧ y = .str j ∧ Q (.bl (!decide (i = j))) H) ∨ (∃ n a b xs ys r, n ≤ 60 ∧ x = .ref a ∧ y = .ref b ∧ SqL K H a xs ∧ SqL K H b ys ∧ AllB (EqA K H n) xs ys r ∧ Q (.bl (!r)) H) ∨ (∃ a b xs ys, x = .ref a ∧ y = .ref b ∧ SqL K H a xs ∧ SqL K H b ys ∧ xs.length ≠ ys.length ∧ Q (.bl true) H)
theorem op_neW (hu : X.A.units + 64 < cLine) : OpR X (compareOp .NotEq) (rNeW X.K) := by
  intro pins s σ H x y v u Q I rx ry h
  rcases h with ⟨i, j, rfl, rfl, q⟩ | ⟨n, a, b, xs, ys, r, hn, rfl, rfl, ha, hb, hp, q⟩ | ⟨a, b, xs, ys, rfl, rfl, ha, hb, hne, q⟩
  · refine op_ne pins s σ H (.str i) (.str j) v u Q I rx ry ⟨rfl, ?_⟩
    rw [show decide (V.str i = V.str j) = decide (i = j) from by
      by_cases e : i = j
      · rw [decide_eq_true e, decide_eq_true (by rw [e])]
      · rw [decide_eq_false e, decide_eq_false fun z => e (by injection z)]]
    exact q
  · cases (show v = Value.ref a from rx)
    cases (show u = Value.ref b from ry)
    obtain ⟨us, r1, p1, _⟩ := I.list ha
    obtain ⟨ws, r2, p2, _⟩ := I.list hb
    have hsz : us.toArray.size = ws.toArray.size := by
      rw [List.size_toArray, List.size_toArray, ← r1.length, ← r2.length]
      exact hp.len
    obtain ⟨e, k, er⟩ := allB_run (eqA_run I n X.A.in1 (by show X.A.units + 1 + n < cLine; omega)) hp r1 r2
    refine SeqAt.rcP_listsNe (e := e) p1.isList p2.isList hsz (by omega) (fun j h1 h2 => ?_) _ _ ?_
    · have := k j (by simpa using h1) (by simpa using h2)
      simpa using this
    · rw [List.size_toArray, ← er]
      exact ⟨.bl _, H, I, rfl, q⟩
  · cases (show v = Value.ref a from rx)
    cases (show u = Value.ref b from ry)
    obtain ⟨us, r1, p1, _⟩ := I.list ha
    obtain ⟨ws, r2, p2, _⟩ := I.list hb
    exact SeqAt.RcNeAt.lists_lengths p1.isList p2.isList (by simp [← r1.length, ← r2.length, hne]) (by omega) _ _ _ _ ⟨.bl true, H, I, rfl, q⟩
end
/-- xs.insert(i, y) -/
def rInsert : V → List V → Hp → VK → Prop := fun x vs H Q => ∃ (l : Addr) (xs : List V) (i : Int) (y : V), x = .ref l ∧ vs = [.int i, y] ∧ H l = some (.lst xs) ∧ xs.length < sizeLine ∧ 0 ≤ i ∧ i < 2 ^ 63 ∧ Q .non (upd H l (.lst (xs.take i.toNat ++ [y] ++ xs.drop i.toNat)))
end B
/-! == and != of a thing of any kind and a text; of a tuple and (); != of tuples that hold dicts; isinstance(e, (A, ..)) of an error with fields -/
namespace PySem
namespace SeqAt
open MeetsSeq MeetsSeq2 MeetsSeq3
open PySem.Calls Builtin
theorem dict_ne_declines_str (l : Addr) (es : Array DictEntry) (n : Nat) (dd : Option Addr) (sl : Array (Option Value)) (b : Str) (u : Tok) :
    Meets (Builtin.«dict.__ne__» ⟨[.ref l, .str b u], []⟩) (fun _ R s => s.heap.get? l = some { cls := .type "dict", dict := dd, data := .dict es n, slots := sl } ∧ R (.ok (.ret .notImplemented)) s) :=
  .of_wp fun prog w A R s h => by
    obtain ⟨hp, g, d, tk, os⟩ := s
    obtain ⟨hl, h⟩ := h
    have f1 := F.sub_str_dict
    wp_walk using AutoSeq1.wpAny_loadPart' hl
    exact ⟨_, rfl, h⟩
theorem str_ne_declines_dict (b : Str) (u : Tok) (l : Addr) (es : Array DictEntry) (n : Nat) (dd : Option Addr) (sl : Array (Option Value)) :
    Meets (Builtin.«str.__ne__» ⟨[.str b u, .ref l], []⟩) (fun _ R s => s.heap.get? l = some { cls := .type "dict", dict := dd, data := .dict es n, slots := sl } ∧ R (.ok (.ret .notImplemented)) s) :=
  .of_wp fun prog w A R s h => by
    obtain ⟨hp, g, d, tk, os⟩ := s
    obtain ⟨hl, h⟩ := h
    wp_walk using AutoSeq1.wpAny_loadPart' hl, wpAny_load hl
    exact ⟨_, rfl, h⟩
section
variable {A : Around} {s : Shared} {l : Addr} {o : Obj} {es : Array DictEntry} {n : Nat}
theorem RcAt.dict_str (b : Str) (u : Tok) (ho : s.heap.get? l = some o) (hc : o.cls = .type "dict") (hd : o.data = .dict es n) (hu : A.units < cLine) : RcAt A s (.ref l) (.str b u) false := fun prog w E Q h => by
  obtain ⟨cls, dd, data, sl⟩ := o
  simp only at hc hd
  subst hc hd
  exact rc_eq_decline_or (k := false) ⟨_, ho, rfl⟩ (typeIs_str s b u) (by decide) F.sub_str_dict F.slot_dict_eq F.slot_str_eq_refl
    (fun _ hq => call_meets F.slot_dict_eq ⟨_, ho, rfl⟩ F.entry_dict_eq (F.args_dict_eq_2 _ _) (dict_declines_str l es n dd sl b u) ⟨ho, hq⟩)
    (fun _ hq => call_meets F.slot_str_eq_refl (typeIs_str s b u) F.entry_str_eq (F.args_str_eq_2 _ _) (str_declines_dict b u l es n dd sl) ⟨ho, hq⟩)
    (fun _ hq => wpAny_of_eq (rfl : isSame (.ref l) (.str b u) = pure false) hq) (.inr hu) h
theorem RcNeAt.dict_str (b : Str) (u : Tok) (ho : s.heap.get? l = some o) (hc : o.cls = .type "dict") (hd : o.data = .dict es n) (hu : A.units < cLine) : RcNeAt A s (.ref l) (.str b u) true := fun prog w E Q h => by
  obtain ⟨cls, dd, data, sl⟩ := o
  simp only at hc hd
  subst hc hd
  exact rc_ne_decline_or (k := false) ⟨_, ho, rfl⟩ (typeIs_str s b u) (by decide) F.sub_str_dict F.slot_dict_ne F.slot_str_ne_refl
    (fun _ hq => call_meets F.slot_dict_ne ⟨_, ho, rfl⟩ F.entry_dict_ne (F.args_dict_ne_2 _ _) (dict_ne_declines_str l es n dd sl b u) ⟨ho, hq⟩)
    (fun _ hq => call_meets F.slot_str_ne_refl (typeIs_str s b u) F.entry_str_ne (F.args_str_ne_2 _ _) (str_ne_declines_dict b u l es n dd sl) ⟨ho, hq⟩)
    (fun _ hq => wpAny_of_eq (rfl : isSame (.ref l) (.str b u) = pure false) hq) (.inr hu) h
end
end SeqAt
end PySem
namespace B
open PySem PySem.Spec PyProof.Rows L2
/-- x == y, x of any kind, y a text -/
def rEqDS (K : Fg) (neg : Bool) : R2 := fun x y H Q => ∃ s, y = .str s ∧ ((∃ t, x = .str t ∧ Q (.bl (if neg then !decide (t = s) else decide (t = s))) H) ∨ (NotS K H x ∧ Q (.bl neg) H))
section
variable {X : Cx}
theorem op_eqDS (hu : X.A.units + 64 < cLine) : OpR X (compareOp .Eq) (rEqDS X.K false) := by
  intro pins s σ H x y v u Q I rx ry h
  obtain ⟨t, rfl, h⟩ := h
  rcases h with ⟨t', rfl, q⟩ | ⟨hn, q⟩
  · exact op_eq pins s σ H (.str t') (.str t) v u Q I rx ry ⟨rfl, by
      rw [show decide (V.str t' = V.str t) = decide (t' = t) from decide_eq_decide.mpr ⟨fun e => by injection e, fun e => by rw [e]⟩]
      exact q⟩
  obtain ⟨tk, rfl⟩ := ry
  have hu1 : X.A.units < cLine := by omega
  have fin : EP X pins σ Q (.bool false) s := ⟨.bl false, H, I, rfl, q⟩
  show wpAny (model X.prog X.w) X.A (richCompare .Eq v (.str t tk)) (EP X pins σ Q) X.xe s
  rcases hn with rfl | ⟨b, rfl⟩ | ⟨i, rfl⟩ | ⟨c, xs, rfl, hs⟩ | ⟨c, xs, rfl, hs⟩ | ⟨c, ks, rfl, hs⟩
  · obtain rfl : v = Value.none := rx
    exact SeqAt.RcAt.none_str _ _ _ _ _ _ fin
  · obtain rfl : v = Value.bool b := rx
    exact SeqAt.RcAt.bool_str _ _ _ _ _ _ _ fin
  · obtain ⟨t2, rfl⟩ := rx
    exact SeqAt.RcAt.int_str _ _ _ _ _ _ _ _ fin
  · obtain rfl : v = Value.ref c := rx
    obtain ⟨its2, _, ⟨o2, n2, ho2, hc2, _, hd2⟩, _⟩ := I.list hs
    exact SeqAt.RcAt.list_str _ _ ⟨o2, ho2, hc2, n2, hd2⟩ hu1 _ _ _ _ fin
  · obtain rfl : v = Value.ref c := rx
    obtain ⟨its2, _, ⟨o2, ho2, hc2, n2, hd2⟩, _⟩ := I.tuple hs
    exact SeqAt.RcAt.tuple_str _ _ ⟨o2, ho2, hc2, n2, hd2⟩ hu1 _ _ _ _ fin
  · obtain rfl : v = Value.ref c := rx
    obtain ⟨_, _, vs, _, o2, es, ep, ho2, ex, hd2, _⟩ := dk_rd I.hok hs
    exact SeqAt.RcAt.dict_str _ _ ho2 ex.1 hd2 hu1 _ _ _ _ fin
theorem op_neDS (hu : X.A.units + 64 < cLine) : OpR X (compareOp .NotEq) (rEqDS X.K true) := by
  intro pins s σ H x y v u Q I rx ry h
  obtain ⟨t, rfl, h⟩ := h
  rcases h with ⟨t', rfl, q⟩ | ⟨hn, q⟩
  · exact op_ne pins s σ H (.str t') (.str t) v u Q I rx ry ⟨rfl, by
      rw [show decide (V.str t' = V.str t) = decide (t' = t) from decide_eq_decide.mpr ⟨fun e => by injection e, fun e => by rw [e]⟩]
      exact q⟩
  obtain ⟨tk, rfl⟩ := ry
  have hu1 : X.A.units < cLine := by omega
  have fin : EP X pins σ Q (.bool true) s := ⟨.bl true, H, I, rfl, q⟩
  show wpAny (model X.prog X.w) X.A (richCompare .NotEq v (.str t tk)) (EP X pins σ Q) X.xe s
  rcases hn with rfl | ⟨b, rfl⟩ | ⟨i, rfl⟩ | ⟨c, xs, rfl, hs⟩ | ⟨c, xs, rfl, hs⟩ | ⟨c, ks, rfl, hs⟩
  · obtain rfl : v = Value.none := rx
    exact SeqAt.RcNeAt.none_str _ _ _ _ _ _ fin
  · obtain rfl : v = Value.bool b := rx
    exact SeqAt.RcNeAt.bool_str _ _ _ _ _ _ _ fin
  · obtain ⟨t2, rfl⟩ := rx
    exact SeqAt.RcNeAt.int_str _ _ _ _ _ _ _ _ fin
  · obtain rfl : v = Value.ref c := rx
    obtain ⟨its2, _, ⟨o2, n2, ho2, hc2, _, hd2⟩, _⟩ := I.list hs
    exact SeqAt.RcNeAt.list_str _ _ ⟨o2, ho2, hc2, n2, hd2⟩ hu1 _ _ _ _ fin
  · obtain rfl : v = Value.ref c := rx
    obtain ⟨its2, _, ⟨o2, ho2, hc2, n2, hd2⟩, _⟩ := I.tuple hs
    exact SeqAt.RcNeAt.tuple_str _ _ ⟨o2, ho2, hc2, n2, hd2⟩ hu1 _ _ _ _ fin
  · obtain rfl : v = Value.ref c := rx
    obtain ⟨_, _, vs, _, o2, es, ep, ho2, ex, hd2, _⟩ := dk_rd I.hok hs
    exact SeqAt.RcNeAt.dict_str _ _ ho2 ex.1 hd2 hu1 _ _ _ _ fin
/-- x == (), x a tuple -/
def rEqT0 (K : Fg) : R2 := fun x y H Q => ∃ a b xs, x = .ref a ∧ y = .ref b ∧ SqT K H a xs ∧ SqT K H b [] ∧ Q (.bl xs.isEmpty) H
theorem op_eqT0 (hu : X.A.units + 64 < cLine) : OpR X (compareOp .Eq) (rEqT0 X.K) := by
  intro pins s σ H x y v u Q I rx ry h
  obtain ⟨a, b, xs, rfl, rfl, ha, hb, q⟩ := h
  obtain rfl : v = Value.ref a := rx
  obtain rfl : u = Value.ref b := ry
  have hu1 : X.A.units < cLine := by omega
  obtain ⟨its, r1, p1, _⟩ := I.tuple ha
  obtain ⟨its2, r2, p2, _⟩ := I.tuple hb
  cases r2
  obtain ⟨o, ho, hc, n, hd⟩ := p1
  obtain ⟨o2, ho2, hc2, n2, hd2⟩ := p2
  have fin : EP X pins σ Q (.bool ((List.range (min its.toArray.size (#[] : Array Value).size)).all (fun _ => true) && its.toArray.size == (#[] : Array Value).size)) s := by
    have e : ((List.range (min its.toArray.size (#[] : Array Value).size)).all (fun _ => true) && its.toArray.size == (#[] : Array Value).size) = xs.isEmpty := by
      have hl := r1.length
      cases xs with
      | nil =>
        cases its with
        | nil => rfl
        | cons _ _ => cases hl
      | cons x xs =>
        cases its with
        | nil => cases hl
        | cons y ys => simp
    rw [e]
    exact ⟨.bl _, H, I, rfl, q⟩
  exact SeqAt.RcAt.tuples (e := fun _ => true) ⟨o, ho, hc, n, hd⟩ ⟨o2, ho2, hc2, n2, hd2⟩ hu1 (fun j h1 h2 => absurd h2 (Nat.not_lt_zero j)) _ _ _ _ fin
end
/-- isinstance(e, (A, B, ..)), e an error that was kept, with fields or without -/
def rIsFT (K : PySem.W.Frag) : List V → Hp → VK → Prop := fun xs H Q => ∃ (a D tp : Addr) (d : Option Addr) (cs : List V) (us : List Value) (b : Bool), xs = [.ref a, .ref tp] ∧ H a = some (BX.ExK (.ref D) d a) ∧ (∀ dd, d = some dd → ∃ fs, H dd = some (.xd fs)) ∧ ExcC K D ∧ H tp = some (.tup cs) ∧ Paired ClsV cs us ∧ PySem.W.kitAny K (.ref D) us = some b ∧ Q (.bl b) H
theorem call_isFT {X : Cx} : CallR X (.builtin "isinstance") (rIsFT X.K) := by
  intro pins s σ H xs us Q I r h
  obtain ⟨a, D, tp, d, cs, ws, b, rfl, ha, hdd, C, hT, k, e, q⟩ := h
  obtain ⟨u1, u2, rfl, r1, r2⟩ := vals2 r
  cases (show u1 = Value.ref a from r1)
  cases (show u2 = Value.ref tp from r2)
  obtain ⟨oe, vs, hget, hz, hv⟩ := (I.hok a _ ha).1
  obtain ⟨od, J⟩ : ∃ od, PySem.W.InstAt s.heap a oe D od := by
    obtain ⟨oc, od, oda, osl⟩ := oe
    obtain ⟨h1, h2⟩ := hz
    dsimp only at h1 h2 hv
    subst h1 h2 hv
    cases od with
    | none => exact ⟨none, hget, rfl, rfl, trivial⟩
    | some dd =>
      obtain ⟨fs, hfs⟩ := hdd dd rfl
      have hx : ObjOk X.prog X.w H s.heap dd (.xd fs) := I.hok dd _ hfs
      obtain ⟨mA, hns, _⟩ := hx
      obtain ⟨o2, _, _, ho, _⟩ := hns
      exact ⟨some o2, hget, rfl, rfl, ho⟩
  obtain ⟨_, its, rv, o, h1, h2, n, h3⟩ := (show ObjOk X.prog X.w H s.heap tp (.tup cs) from I.hok tp _ hT)
  have e3 := ClsV.all k rv
  subst e3
  obtain ⟨oc, od2, dt, sl⟩ := o
  simp only at h2 h3
  subst h2 h3
  exact PySem.W.kia_tup (BE.kit_at C) I.kIn J h1 e (fun z => nomatch z) fun tk => ⟨.bl b, H, I.kept (t' := tk) fun _ _ z => z, rfl, q⟩
end B
/-! != of tuples that hold dicts -/
namespace PySem.SeqAt
open AutoSeq1 (wpAny_loadPart')
open MeetsSeq MeetsSeq2 MeetsSeq3 SeqRoads2
section
variable {prog : Program} {w : World}
theorem tuple_neIn (l b : Addr) (items items2 : Array Value) (n n2 : Nat) (dd dd2 : Option Addr) (sl sl2 : Array (Option Value)) (e : Nat → Bool) :
    MeetsIn prog w (Builtin.«tuple.__ne__» ⟨[.ref l, .ref b], []⟩)
      (fun A R s => s.heap.get? l = some { cls := .type "tuple", dict := dd, data := .seq items n, slots := sl } ∧ s.heap.get? b = some { cls := .type "tuple", dict := dd2, data := .seq items2 n2, slots := sl2 } ∧
        (∀ j (h1 : j < items.size) (h2 : j < items2.size), EqP prog w A.in1 s items[j] items2[j] (e j)) ∧
        R (.ok (.ret (.bool (!((List.range (min items.size items2.size)).all e && items.size == items2.size))))) s) := by
  intro A R s h
  obtain ⟨hp, g, d, tk, os⟩ := s; obtain ⟨hl, hb, he, h⟩ := h
  have f2 := AutoSeq1.sub_tuple_tuple
  have hZ : (items.toList.zip items2.toList).length = min items.size items2.size := by simp
  wp_walk using wpAny_loadPart' hl, wpAny_loadPart' hb, wpAny_forIn_list _ (fun rest b s' => b.1 = none ∧ s' = ⟨hp, g, d, tk, os⟩ ∧ ∃ i, rest = (items.toList.zip items2.toList).drop i ∧
    R (.ok (.ret (.bool (!(((List.range (min items.size items2.size)).drop i).all e && items.size == items2.size))))) ⟨hp, g, d, tk, os⟩) _
  case turn =>
    rintro ⟨y, x⟩ rest b s' ⟨hb', rfl, i, hz, hR⟩
    have hlt : i < (items.toList.zip items2.toList).length := by
      rcases Nat.lt_or_ge i (items.toList.zip items2.toList).length with h' | h'
      · exact h'
      · rw [List.drop_of_length_le h'] at hz; cases hz
    have hm : i < min items.size items2.size := hZ ▸ hlt
    have h1 : i < items.size := Nat.lt_of_lt_of_le hm (Nat.min_le_left _ _)
    have h2 : i < items2.size := Nat.lt_of_lt_of_le hm (Nat.min_le_right _ _)
    rw [List.drop_eq_getElem_cons hlt] at hz
    injection hz with hyx hrest
    have hy : y = items[i] := by have := congrArg Prod.fst hyx; simpa using this
    have hx : x = items2[i] := by have := congrArg Prod.snd hyx; simpa using this
    subst hy hx
    have hd : (List.range (min items.size items2.size)).drop i = i :: (List.range (min items.size items2.size)).drop (i + 1) := by simp [List.drop_eq_getElem_cons, hm]
    rw [hd, List.all_cons] at hR
    refine wpAny_bind (he i h1 h2 _ _ ?_)
    cases hy : e i with
    | true =>
      rw [hy] at hR
      wp_walk
      exact ⟨rfl, rfl, i + 1, hrest, by simpa using hR⟩
    | false =>
      rw [hy] at hR
      wp_walk
      simpa using hR
  case fin =>
    rintro ⟨b1, b2⟩ s' ⟨hb', rfl, i, hz, hR⟩
    simp only at hb'
    subst hb'
    have hge : min items.size items2.size ≤ i := by
      rcases Nat.lt_or_ge i (items.toList.zip items2.toList).length with h' | h'
      · rw [List.drop_eq_getElem_cons h'] at hz; cases hz
      · exact hZ ▸ h'
    rw [List.drop_of_length_le (by simpa using hge)] at hR
    wp_walk
    simpa [Builtin.Tuple.tupleCompareSizes, bne] using hR
  case h =>
    exact ⟨rfl, rfl, 0, rfl, by simpa using h⟩
theorem rcP_tuplesNe {A : Around} {s : Shared} {l b : Addr} {items items2 : Array Value} {e : Nat → Bool} (hl : s.heap.IsTuple l items) (hb : s.heap.IsTuple b items2) (hsz : items.size = items2.size) (hu : A.units < cLine)
    (he : ∀ j (h1 : j < items.size) (h2 : j < items2.size), EqP prog w A.in1 s items[j] items2[j] (e j)) (E Q : Value → Shared → Prop) (h : Q (.bool (!(List.range items.size).all e)) s) : wpAny (model prog w) A (richCompare .NotEq (.ref l) (.ref b)) Q E s := by
  obtain ⟨⟨cls, dd, data, sl⟩, ho, hc, n, hd⟩ := id hl
  obtain ⟨⟨cls2, dd2, data2, sl2⟩, ho2, hc2, n2, hd2⟩ := id hb
  simp only at hc hd hc2 hd2
  subst hc hd hc2 hd2
  have ta : s.TypeIs (.ref l) "tuple" := ⟨_, ho, rfl⟩
  have tb : s.TypeIs (.ref b) "tuple" := ⟨_, ho2, rfl⟩
  have ee : (!((List.range (min items.size items2.size)).all e && items.size == items2.size)) = !(List.range items.size).all e := by rw [← hsz]; simp
  exact wpAny_richCompare_same_room (op := .NotEq) ta tb F.slot_tuple_ne (call_meetsIn F.slot_tuple_ne ta F.entry_tuple_ne (F.args_tuple_ne_2 _ _) (tuple_neIn l b items items2 n n2 dd dd2 sl sl2 e)
    ⟨ho, ho2, he, show Value.bool (!((List.range (min items.size items2.size)).all e && items.size == items2.size)) ≠ Value.notImplemented ∧ Q (.bool (!((List.range (min items.size items2.size)).all e && items.size == items2.size))) s from ⟨(fun x => nomatch x), by rw [ee]; exact h⟩⟩) hu
end
end PySem.SeqAt
namespace B
open PySem L2 PyProof.Rows
section
variable {X : Cx}
/-- a != b: two tuples of one length where dicts lie within -/
def rNeTQ (K : Fg) : R2 := fun x y H Q => ∃ n a b xs ys r, n ≤ 60 ∧ x = .ref a ∧ y = .ref b ∧ SqT K H a xs ∧ SqT K H b ys ∧ AllB (EqA K H n) xs ys r ∧ Q (.bl (!r)) H
theorem op_neTQ (hu : X.A.units + 64 < cLine) : OpR X (compareOp .NotEq) (rNeTQ X.K) := by
  intro pins s σ H x y v u Q I rx ry h
  obtain ⟨n, a, b, xs, ys, r, hn, rfl, rfl, ha, hb, hp, q⟩ := h
  cases (show v = Value.ref a from rx)
  cases (show u = Value.ref b from ry)
  obtain ⟨us, r1, p1, _⟩ := I.tuple ha
  obtain ⟨ws, r2, p2, _⟩ := I.tuple hb
  have hsz : us.toArray.size = ws.toArray.size := by
    rw [List.size_toArray, List.size_toArray, ← r1.length, ← r2.length]
    exact hp.len
  obtain ⟨e, k, er⟩ := allB_run (eqA_run I n X.A.in1 (by show X.A.units + 1 + n < cLine; omega)) hp r1 r2
  refine SeqAt.rcP_tuplesNe (e := e) p1 p2 hsz (by omega) (fun j h1 h2 => ?_) _ _ ?_
  · have := k j (by simpa using h1) (by simpa using h2)
    simpa using this
  · rw [List.size_toArray, ← er]
    exact ⟨.bl _, H, I, rfl, q⟩
end
end B
/-! B: == of dicts, with any answer -/
namespace B
open PySem L2
open PySem.W (Tup T3 T4 Datum DatumOrd)
open Evl (Ex)
/-- two dicts are equal -/
def deq {κ α : Type} [DecidableEq κ] [DecidableEq α] (a b : List (κ × α)) : Bool := decide (a.length = b.length) && a.all fun q => decide (klook b q.1 = some q.2)
theorem klook_memN {κ α : Type} [DecidableEq κ] : ∀ {l : List (κ × α)}, (l.map (·.1)).Nodup → ∀ q ∈ l, klook l q.1 = some q.2
  | [], _, q, h => by simp at h
  | p :: l, nd, q, h => by
    rw [klook_cons]
    rw [List.map_cons, List.nodup_cons] at nd
    rcases List.mem_cons.mp h with rfl | h
    · rw [if_pos rfl]
    · rw [if_neg fun e => nd.1 (by rw [e]; exact List.mem_map_of_mem h)]
      exact klook_memN nd.2 q h
/-- .. that is, if they tell alike of every key -/
theorem deq_iff {κ α : Type} [DecidableEq κ] [DecidableEq α] {a b : List (κ × α)} (na : (a.map (·.1)).Nodup) (nb : (b.map (·.1)).Nodup) : deq a b = true ↔ ∀ k, klook a k = klook b k := by
  unfold deq
  rw [Bool.and_eq_true, decide_eq_true_eq, List.all_eq_true]
  constructor
  · rintro ⟨hl, h⟩ k
    have sub : (a.map (·.1)) ⊆ (b.map (·.1)) := fun k hk => by
      obtain ⟨q, hq, rfl⟩ := List.mem_map.mp hk
      exact List.mem_map.mpr ⟨_, klook_mem (of_decide_eq_true (h q hq)), rfl⟩
    have sub2 : (b.map (·.1)) ⊆ (a.map (·.1)) := fun k hk => by
      by_cases hka : k ∈ a.map (·.1)
      · exact hka
      · have := nodup_le (List.nodup_cons.mpr ⟨hka, na⟩) (m := b.map (·.1)) (fun x hx => by
          rcases List.mem_cons.mp hx with rfl | hx
          · exact hk
          · exact sub hx)
        simp only [List.length_cons, List.length_map] at this
        omega
    cases e : klook a k with
    | some x => exact (of_decide_eq_true (h _ (klook_mem e))).symm
    | none =>
      cases e' : klook b k with
      | none => rfl
      | some y =>
        obtain ⟨q, hq, e2⟩ := List.mem_map.mp (sub2 (List.mem_map.mpr ⟨_, klook_mem e', rfl⟩))
        have := klook_memN na q hq
        rw [show q.1 = k from e2, e] at this
        cases this
  · intro h
    have sub : ∀ {a b : List (κ × α)}, (∀ k, klook a k = klook b k) → (a.map (·.1)).Nodup → (a.map (·.1)) ⊆ (b.map (·.1)) := fun h na k hk => by
      obtain ⟨q, hq, rfl⟩ := List.mem_map.mp hk
      exact List.mem_map.mpr ⟨_, klook_mem ((h _).symm.trans (klook_memN na q hq)), rfl⟩
    have l1 := nodup_le na (fun x hx => sub h na hx)
    have l2 := nodup_le nb (fun x hx => sub (fun k => (h k).symm) nb hx)
    rw [List.length_map, List.length_map] at l1 l2
    exact ⟨by omega, fun q hq => decide_eq_true ((h _).symm.trans (klook_memN na q hq))⟩
theorem deq_congr {κ α : Type} [DecidableEq κ] [DecidableEq α] {a b a' b' : List (κ × α)} (na : (a.map (·.1)).Nodup) (nb : (b.map (·.1)).Nodup) (na' : (a'.map (·.1)).Nodup) (nb' : (b'.map (·.1)).Nodup) (ha : ∀ k, klook a k = klook a' k) (hb : ∀ k, klook b k = klook b' k) : deq a b = deq a' b' := by
  rw [Bool.eq_iff_iff, deq_iff na nb, deq_iff na' nb']
  exact ⟨fun h k => by rw [← ha, ← hb, h], fun h k => by rw [ha, hb, h]⟩
theorem deq_self {κ α : Type} [DecidableEq κ] [DecidableEq α] {a b : List (κ × α)} (na : (a.map (·.1)).Nodup) (nb : (b.map (·.1)).Nodup) (h : ∀ k, klook a k = klook b k) : deq a b = true := (deq_iff na nb).mpr h
section
variable {κ α : Type} [DecidableEq κ] [PyKey κ] [DecidableEq α] [Datum α] [Py α] [PyD α] {K : Fg} {W : Wd} {n : Nat}
theorem eqa_rep {H : Hp} {v u : V} {x y : α} (hv : rep K H v x) (hu : rep K H u y) (hd : Datum.depth α ≤ n) : EqA K H (n + 1) v u (decide (x = y)) := .inl ⟨α, _, _, x, y, PyD.dp hv, PyD.dp hu, hd, rfl⟩
theorem hits_deq {H H' : Hp} {ls : List (Key × V)} {kv' : List (κ × α)} (r2 : KReps K H ls kv') (e : Ext H H') (hd : Datum.depth α ≤ n) : ∀ {ks : List (Key × V)} {kv : List (κ × α)}, KReps K H ks kv → HitsB (EqA K H' (n + 1)) ls ks (kv.all fun q => decide (klook kv' q.1 = some q.2))
  | _, _, .nil => rfl
  | _, _, .cons (a := p) (b := q) ⟨h1, h2⟩ t => by
    rcases klk r2 q.1 with ⟨e1, e2⟩ | ⟨y, u, e1, e2, e3⟩
    · refine .inl ⟨by rw [h1]; exact e2, ?_⟩
      rw [List.all_cons, e1]
      rfl
    · refine .inr ⟨u, _, _, by rw [h1]; exact e2, eqa_rep (Py.mono e h2) (Py.mono e e3) hd, hits_deq r2 e hd t, ?_⟩
      rw [List.all_cons, e1]
      congr 1
      by_cases z : q.2 = y
      · rw [decide_eq_true z, decide_eq_true (by rw [z])]
      · rw [decide_eq_false z, decide_eq_false fun h => z (Option.some.inj h).symm]
theorem eqa1_dict {p q : Addr} {kv kv' : List (κ × α)} (m1 : DMut K W p kv) (m2 : DMut K W q kv') (hd : Datum.depth α ≤ n) : EqA1 K W.H (EqA K W.H (n + 1)) (.ref p) (.ref q) (deq kv kv') := by
  obtain ⟨ks, e1, r1⟩ := m1.ex
  obtain ⟨ls, e2, r2⟩ := m2.ex
  refine ⟨p, q, rfl, rfl, .inr (.inr ⟨ks, ls, _, e1, e2, fun _ => hits_deq r2 W.sub hd r1, ?_⟩)⟩
  rw [KReps.len r1, KReps.len r2]
  rfl
theorem eqa_dict {p q : Addr} {kv kv' : List (κ × α)} (m1 : DMut K W p kv) (m2 : DMut K W q kv') (hd : Datum.depth α ≤ n) (same : p = q → deq kv kv' = true) : EqA K W.H (n + 2) (.ref p) (.ref q) (deq kv kv') := .inr ⟨eqa1_dict m1 m2 hd, fun e => same (by cases e; rfl)⟩
/-- d != e -/
theorem ne_dictQ {p q : Addr} {kv kv' : List (κ × α)} {Q : VK} (m1 : DMut K W p kv) (m2 : DMut K W q kv') (hd : Datum.depth α ≤ 50) (k : Q (.bl (!deq kv kv')) W.H) : rNeQ K (.ref p) (.ref q) W.H Q := by
  obtain ⟨ks, e1, r1⟩ := m1.ex
  obtain ⟨ls, e2, r2⟩ := m2.ex
  refine ⟨51, p, q, ks, ls, _, by decide, rfl, rfl, e1, e2, fun _ => hits_deq r2 W.sub hd r1, ?_⟩
  rw [KReps.len r1, KReps.len r2]
  exact k
end
end B
/-! B: instances made within a try; isinstance(e, (A, B, ..)) of an error that was kept -/
namespace B
open PySem PySem.Spec PyProof.Rows L2
/-- C(e, ..) within a try -/
def tMakeTS (C : Addr) (sp : Sp) (E : L2.St → XK) (t : TA) : TE := fun σ H Q => t σ H fun vs H1 => ∀ x dx, H1 x = none → H1 dx = none → dx ≠ x →
  sp (.ref x :: vs) (upd (upd H1 dx (.own x)) x (.ins C dx [])) (fun v H2 => v = .non ∧ Q (.ref x) H2) (E σ)
section
variable {X : Cx} {CX : CXT} {k : Nat} {f C : Addr} {fd : FuncData} {ps : List Str} {sp : Sp} {E : L2.St → XK} {x : Str} {p pos : Pos} {e : Expr} {es : List Expr} {t : TA}
theorem run_makeTS {pins : List (Addr × Obj)} {σ : L2.St} {H : Hp} {s : Shared} {Q : VK} {us : List Value} {vs : List V} (M : Mk X.K C f) (F : FnOk X.prog X.w X.K X.mg X.base CX k f fd ps sp) (hr : Room (k + 1) X.A) (hb : Binds X.K fd ps [])
    (hx : PassesAt CX X σ (E σ)) (I : Inv X pins σ H s) (r : Vals vs us)
    (h : ∀ x dx, H x = none → H dx = none → dx ≠ x → sp (.ref x :: vs) (upd (upd H dx (.own x)) x (.ins C dx [])) (fun v H2 => v = .non ∧ Q (.ref x) H2) (E σ)) :
    wpAny (model X.prog X.w) X.A (call (.ref C) us) (EP X pins σ Q) X.xe s := by
  have hq := h (s.heap.objs.size + 1) s.heap.objs.size (I.hok.fresh (Nat.le_succ _)) (I.hok.fresh (Nat.le_refl _)) (Nat.ne_of_lt (Nat.lt_succ_self _))
  have I2 := Inv.made (C := C) I
  have r2 : Vals (V.ref (s.heap.objs.size + 1) :: vs) (Value.ref (s.heap.objs.size + 1) :: us) := .cons rfl r
  have hl : ((Value.ref (s.heap.objs.size + 1) :: us) ++ []).length = ps.length := by
    have e := r2.length
    rw [F.len _ _ _ _ hq] at e
    rw [List.append_nil]
    exact e.symm
  have b := hb _ (Value.ref (s.heap.objs.size + 1) :: us) I2.kIn hl
  rw [List.append_nil] at b
  refine wpAny_call (make_map (f := f) I.kIn M.makes M.init (beq_iff_eq.mp M.fn) (codeAny_mono (F.run _ X.stack _ _ ⟨Value.ref (s.heap.objs.size + 1) :: us, []⟩ (Value.ref (s.heap.objs.size + 1) :: us) _ _ (E σ) (hr.make C us [])
    (I2.env0.make C us []) b r2 hq) fun r s' hq' => ?_))
  cases r with
  | error e => exact hx pins _ _ e s' I2 hq'
  | ok fl =>
    cases fl with
    | ret u =>
      obtain ⟨v, H', I3, rv, ev, q3⟩ := I2.after hq'
      subst ev
      exact ⟨rv, ⟨V.ref (s.heap.objs.size + 1), H', I3, rfl, q3⟩⟩
    | next => exact False.elim hq'
    | brk => exact False.elim hq'
    | cont => exact False.elim hq'
theorem pe_makeTS (M : Mk X.K C f) (F : FnOk X.prog X.w X.K X.mg X.base CX k f fd ps sp) (hr : Room (k + 1) X.A) (hg : Gl X x) (hm : X.mg x = some (.ref C)) (hb : Binds X.K fd ps []) (hx : ∀ σ, PassesAt CX X σ (E σ))
    (ha : PA X (e :: es) t) (hdb : (x == ("__debug__" : Str)) = false := by decide) (he : starEach (e :: es) X.env = (false, eval e X.env) :: starEach es X.env := by rfl) (hpl : (backTo pos (starEach es X.env)).any (·.1) = false := by rfl) :
    PE X (.Call (.Name x p) (e :: es) [] pos) (tMakeTS C sp E t) := by
  refine ⟨fun pins s σ H Q I h => ?_⟩
  refine wpAny_Call_Name_kw (ld_glob I hg hm ?_ hdb)
  refine PySem.W.callWith_K (h₀ := X.base) I.ok.mod.kin M.kp (thn (ha.run pos pins s σ H _ I h) fun us s1 ⟨vs, H1, I1, r, q⟩ => ⟨I1.kIn, ?_⟩) he hpl
  exact run_makeTS M F hr hb (hx σ) I1 r q
end
/-- isinstance(e, (A, B, ..)), e an error that was kept -/
def rIsKT (K : PySem.W.Frag) : List V → Hp → VK → Prop := fun xs H Q => ∃ (a D tp : Addr) (cs : List V) (us : List Value) (b : Bool), xs = [.ref a, .ref tp] ∧ H a = some (BX.ExK (.ref D) none a) ∧ ExcC K D ∧ H tp = some (.tup cs) ∧ Paired ClsV cs us ∧ PySem.W.kitAny K (.ref D) us = some b ∧ Q (.bl b) H
theorem call_isKT {X : Cx} : CallR X (.builtin "isinstance") (rIsKT X.K) := by
  intro pins s σ H xs us Q I r h
  obtain ⟨a, D, tp, cs, ws, b, rfl, ha, C, hT, k, e, q⟩ := h
  obtain ⟨u1, u2, rfl, r1, r2⟩ := vals2 r
  cases (show u1 = Value.ref a from r1)
  cases (show u2 = Value.ref tp from r2)
  obtain ⟨oe, vs, hget, hz, hv⟩ := (I.hok a _ ha).1
  have J : PySem.W.InstAt s.heap a oe D none := by
    obtain ⟨oc, od, oda, osl⟩ := oe
    obtain ⟨h1, h2⟩ := hz
    dsimp only at h1 h2 hv
    subst h1 h2 hv
    exact ⟨hget, rfl, rfl, trivial⟩
  obtain ⟨_, its, rv, o, h1, h2, n, h3⟩ := (show ObjOk X.prog X.w H s.heap tp (.tup cs) from I.hok tp _ hT)
  have e3 := ClsV.all k rv
  subst e3
  obtain ⟨oc, od, dt, sl⟩ := o
  simp only at h2 h3
  subst h2 h3
  exact PySem.W.kia_tup (PySem.W.handS_kitx_exc C.hg C.hk C.hs C.hd C.ha C.hn C.ht C.hm) I.kIn J h1 e (fun z => nomatch z) fun tk => ⟨.bl b, H, I.kept (t' := tk) fun _ _ z => z, rfl, q⟩
end B
/-! LM: a lambda handed to a def, with all told that its making changes -/
namespace LM
open PySem PySem.Spec PyProof.Rows L2 LamX
/-- a lambda was made: nothing has changed, or one code object more stands in the table at P -/
def LamStep (P : Addr) (q : Str) (H H1 : Hp) : Prop := H1 = H ∨ ∃ (ps : Array Value) (pos : Pos) (c : Addr), H P = some (.tbl ps) ∧ H c = none ∧ H1 = upd (upd H P (.tbl (ps ++ #[rawInt pos.line, rawInt pos.col, .ref c]))) c (CodeO c q)
section
variable {X : Cx} {pins : List (Addr × Obj)} {σ : L2.St} {H : Hp} {s : Shared}
theorem lam_made {c P : Addr} {params : Arguments} {body : Expr} {scope : Scope} {pos : Pos} {E : Value → Shared → Prop} {Q : Value → Shared → Prop} (J : Inv X pins σ H s) (B : TabB X.base X.mg c P) (ec : X.env.code = .ref c) (T : TabS H P (X.env.qual ++ "<lambda>"))
    (ed : defaultsOf params X.env = ([], [])) (fr : ∀ y ∈ scope.names, y.2 = .free → ∃ c, X.env.cells.lookup y.1 = some c)
    (k : ∀ (f d : Addr) (pm ct : Value) (H1 : Hp) (z : Shared), Inv X pins σ H1 z → LamStep P (X.env.qual ++ "<lambda>") H H1 → z.heap.get? f = some (PySem.W.kla_obj "<lambda>" (X.env.qual ++ "<lambda>") params body scope (cloFrom X.env.cells scope.names []) pm d ct) →
      H1 f = none → f ∉ frs X.stack → H1 d = some (CodeO d (X.env.qual ++ "<lambda>")) → Q (.ref f) z) : wpAny (model X.prog X.w) X.A (eval (.Lambda params body scope pos) X.env) Q E s := by
  obtain ⟨ps, eP, ok, all⟩ := T
  have gP : s.heap.get? P = some { cls := .none, data := .fields ps } := J.hok P _ eP
  have bt : s.heap.BuiltinsAt X.mg P := B.bm.keeps J.bk
  have out : ∀ f, s.heap.objs.size ≤ f → f ∉ frs X.stack := fun f hf z => (List.mem_cons.mp (J.stkSub _ z)).elim (fun e => by
    have := J.lt
    rw [← e] at this
    exact absurd this (Nat.not_lt.mpr hf)) fun e => J.nofs hf e
  refine PySem.W.kla_eval ed ?_
  cases ecd : codeAmong pos ps.toList with
  | some v =>
    obtain ⟨d, rfl, ho⟩ := all pos v ecd
    refine PySem.W.kla_makeFunctionHit (mg := X.mg) (c := c) (P := P) (ps := ps) (closure_ok fr) J.ok.glob (J.mod.glob.keeps J.bk) ec (B.code.keeps J.bk) gP ok ecd bt fun ct h2 tk hx sz => ?_
    exact k h2.objs.size d _ ct H _ (J.kept fun b o e => Heap.get?_push_of_some _ (hx b o e)) (.inl rfl) (Heap.get?_push_size _ rfl) (J.hok.fresh sz) (out _ sz) ho
  | none =>
    refine PySem.W.kla_makeFunction (mg := X.mg) (c := c) (P := P) (ps := ps) (closure_ok fr) J.ok.glob (J.mod.glob.keeps J.bk) ec (B.code.keeps J.bk) gP ok ecd B.gP bt fun d ct h2 tk hx ge lt rec tb => ?_
    obtain ⟨d', oc, vs, t, ed', hoc, hd, hv⟩ := rec
    cases ed'
    have nd : H d = none := J.hok.fresh ge
    have sz : s.heap.objs.size ≤ h2.objs.size := Nat.le_trans ge (Nat.le_of_lt lt)
    have J2 := inv_table (t' := tk) (more := #[rawInt pos.line, rawInt pos.col, .ref d]) (h' := h2.push (PySem.W.kla_obj "<lambda>" (X.env.qual ++ "<lambda>") params body scope (cloFrom X.env.cells scope.names []) ((X.mg "__name__").getD .none) d ct)) J eP
      (fun b o hb e => Heap.get?_push_of_some _ (hx b o hb e)) (Heap.get?_push_of_some _ tb) ge ⟨oc, vs, t, Heap.get?_push_of_some _ hoc, hd, hv⟩
    have n1 : h2.objs.size ≠ d := Nat.ne_of_gt lt
    have n2 : h2.objs.size ≠ P := fun z => by
      have := Heap.lt_size gP
      rw [← z] at this
      exact absurd this (Nat.not_lt.mpr sz)
    exact k h2.objs.size d _ ct _ _ J2 (.inr ⟨ps, pos, d, eP, nd, rfl⟩) (Heap.get?_push_size _ rfl) (by rw [upd_ne n1, upd_ne n2]; exact J.hok.fresh sz) (out _ sz) upd_same
end
section
variable {X : Cx} {pins : List (Addr × Obj)} {σ : L2.St} {H HZ : Hp} {s s1 : Shared}
/-- x() in the def that got the lambda; what it lets out is told by the slots -/
theorem pe_actS {CXg : CXT} {Eg : XK} {Ng : List Str} {qg : Str} {sg : Scope} {g f d : Addr} {cdg pm ctv : Value} {params : Arguments} {body : Expr} {scope : Scope} {k i : Nat} {a : Str} {pn : List (Addr × Obj)} {xe : Value → Shared → Prop} {W : WX} {tb : XK → TE} {p1 p2 : Pos}
    (J : Inv X pins σ H s) (L : LamS X.env.scope scope) (ef : s.heap.get? f = some (PySem.W.kla_obj "<lambda>" (X.env.qual ++ "<lambda>") params body scope (cloFrom X.env.cells scope.names []) pm d ctv)) (fn : H f = none) (ff : f ∉ frs X.stack)
    (eb : bindArgs (PySem.W.kla_fn "<lambda>" (X.env.qual ++ "<lambda>") params body scope (cloFrom X.env.cells scope.names []) pm (.ref d) ctv) ⟨[], []⟩ = pure [])
    (tk : Takes ((cxOf CXg X.prog X.w X.K X.mg X.base Ng qg sg g cdg X.A X.stack s H Eg).tr pn xe) W) (hr : Room (k + 1) (X.A.deeper (envOfC qg sg s.heap.objs.size g cdg)))
    (hbody : ∀ (A : Around) (outer : List Env) (s : Shared) (H : Hp) (E : XK), Room k (A.deeper (lamEnv X scope s.heap.objs.size f d)) → PE (lamCx X A outer s H E scope f d) body (tb E))
    (hN : Ng[i]? = some a) (hv : Vis sg a) (hd : (a == ("__debug__" : Str)) = false := by decide) (hcd : (a == ("__classdict__" : Str)) = false := by decide) :
    PE ((cxOf CXg X.prog X.w X.K X.mg X.base Ng qg sg g cdg X.A X.stack s H Eg).tr pn xe) (.Call (.Name a p1) [] [] p2) (fun σZ HZ Q => σZ[i]? = some (some (.ref f)) ∧ HZ d = some (CodeO d (X.env.qual ++ "<lambda>")) ∧ tb (WE W σZ) σ HZ Q) := by
  refine ⟨fun pz sZ σZ HZ Q IZ ⟨h1, h2, h3⟩ => wpAny_Call_Name_kw (thn ((pe_var (pos := p1) (i := i) hN hv hd hcd).run pz sZ σZ HZ (fun v H1 => v = .ref f ∧ H1 = HZ) IZ ⟨.ref f, h1, rfl, rfl⟩) fun u s1 ⟨v, H1, I1, r1, ev, eH⟩ => ?_)⟩
  subst ev
  rw [eH] at I1
  obtain rfl : u = Value.ref f := r1
  have un : Un (frs X.stack) [] H HZ s.heap s1.heap := I1.base
  have at1 := un.keep f _ ef fn ff (fun z => nomatch (show f ∈ ([] : List Addr) from z))
  obtain ⟨⟨oc, vs, t, hoc, hdc, hvc⟩, _, _⟩ := I1.hok d _ h2
  refine PySem.W.callWith_F0 ⟨_, _, _, _, at1⟩ (wpAny_call (codeAny_mono (show codeAny (model X.prog X.w) (X.A.deeper (envOfC qg sg s.heap.objs.size g cdg)) (.call (.ref f) ⟨[], []⟩) (CR (L2.CX X.prog X.w) (envOfC qg sg s.heap.objs.size g cdg :: X.stack) X.prog X.w HZ s1 Q (WE W σZ)) s1 from ?_) fun r z e => ?_))
  · refine PySem.W.kla_callFunE hr.depth at1 rfl L.co L.gen rfl ⟨d, oc, vs, t, rfl, hoc, hdc, hvc⟩ ?_
    rw [eb]
    refine wpAny_pure (wpAny_newFunctionEnv (fun y hy => (L.own y hy).2) (fun y hy => absurd hy (by simp)) (fun h₁ hns hsb => ⟨I1.nolimit.fresh _ hsb, ?_⟩) L.kind)
    show codeAny _ _ (.expr body (lamEnv X scope s1.heap.objs.size f d)) _ _
    have up : ∀ b o, s1.heap.get? b = some o → h₁.get? b = some o := fun b o e => hsb.extBut b o (Nat.ne_of_lt (Heap.lt_size e)) (Heap.get?_push_of_some _ e)
    have K2 : Inv (lamCx X (X.A.deeper (envOfC qg sg s.heap.objs.size g cdg)) (envOfC qg sg s.heap.objs.size g cdg :: X.stack) s1 HZ (WE W σZ) scope f d) [] σ HZ { s1 with heap := h₁, toks := s1.toks + ([] : List (Str × Value)).length } := lam_start2 J L I1.env0 hr.hd un hns up
    exact PySem.W.kla_codeExpr (wpAny_mono ((hbody _ _ s1 HZ (WE W σZ) (hr.deeper _)).run [] _ _ HZ Q K2 h3) (fun v z ⟨w, H2, J2, rv, q⟩ => ⟨w, H2, J2.os, J2.bare, J2.base, J2.hok, rv, q⟩) fun e z q => q)
  · cases r with
    | error y => exact (passAt (X := (cxOf CXg X.prog X.w X.K X.mg X.base Ng qg sg g cdg X.A X.stack s H Eg).tr pn xe) tk σZ) pz HZ s1 y z I1 e
    | ok fl => cases fl <;> first | exact I1.after e | exact e.elim
end
/-- the def that calls what it got -/
def Gives (X : Cx) (Ng : List Str) (x : Str) (sg : Scope) (g : Addr) (cdg : Value) (bg : List Stmt) (a : Str) (q : Str) (k : Nat) (TT : (XK → Hp → VK → Prop) → Hp → VK → Prop) : Prop :=
  ∀ (f d : Addr) (s : Shared) (H : Hp) (Q : VK) (tl : XK → Hp → VK → Prop), Room k (X.A.deeper (envOfC x sg s.heap.objs.size g cdg)) →
    (∀ (W : WX) (pn : List (Addr × Obj)) (xe : Value → Shared → Prop) (p1 p2 : Pos), Takes ((cxOf C8.CX0 X.prog X.w X.K X.mg X.base Ng x sg g cdg X.A X.stack s H C8.E0).tr pn xe) W →
      PE ((cxOf C8.CX0 X.prog X.w X.K X.mg X.base Ng x sg g cdg X.A X.stack s H C8.E0).tr pn xe) (.Call (.Name a p1) [] [] p2) (fun σZ HZ Q => σZ[0]? = some (some (.ref f)) ∧ HZ d = some (CodeO d q) ∧ tl (WE W σZ) HZ Q)) →
    H d = some (CodeO d q) → TT tl H Q → ∃ t, PSs (cxOf C8.CX0 X.prog X.w X.K X.mg X.base Ng x sg g cdg X.A X.stack s H C8.E0).nox bg t ∧ t { nx := fun _ H' => Q .non H', rt := Q } (L2.start Ng [.ref f]) H
/-- x(lambda: ..) -/
def tLm (P : Addr) (q : Str) (TT : (XK → Hp → VK → Prop) → Hp → VK → Prop) (t : XK → TE) : TE := fun σ H Q => TabS H P q ∧ ∀ H1, LamStep P q H H1 → TT (fun E H' Q' => t E σ H' Q') H1 Q
theorem pe_lm {X : Cx} {TT : (XK → Hp → VK → Prop) → Hp → VK → Prop} {x a : Str} {g c P : Addr} {k : Nat} {pg : Arguments} {bg : List Stmt} {sg : Scope} {dV kV doc pm cdv ct oc : Value} {an od : Option Addr} {osl : Array (Option Value)} {Ng : List Str}
    {params : Arguments} {body : Expr} {scope : Scope} {t : XK → TE} {p lpos pos : Pos} (hg : Gl X x) (hm : X.mg x = some (.ref g)) (hk : PySem.W.keepIn X.K (.ref g) = true) (lk : X.K.lookup g = some ⟨oc, od, .func (PySem.W.fnOf x x pg bg sg dV kV doc pm an cdv ct), osl⟩)
    (hcg : PySem.W.codeIn X.K cdv x = true) (hb : L2.Binds X.K (PySem.W.fnOf x x pg bg sg dV kV doc pm an cdv ct) [a] []) (Sg : FnScope Ng [a] sg) (hNg : Ng[0]? = some a) (hva : Vis sg a) (hG : Gives X Ng x sg g cdv bg a (X.env.qual ++ "<lambda>") (k + 1) TT)
    (B : TabB X.base X.mg c P) (ec : X.env.code = .ref c) (hr : Room (k + 2) X.A) (L : LamS X.env.scope scope) (ed : defaultsOf params X.env = ([], [])) (eb : ∀ (q : Str) (cl : List (Str × Addr)) (pm cv ctv : Value), bindArgs (PySem.W.kla_fn "<lambda>" q params body scope cl pm cv ctv) ⟨[], []⟩ = pure [])
    (hbody : ∀ (A : Around) (outer : List Env) (s : Shared) (H : Hp) (E : XK) (f d : Addr), Room k (A.deeper (lamEnv X scope s.heap.objs.size f d)) → PE (lamCx X A outer s H E scope f d) body (t E))
    (hdb : (x == ("__debug__" : Str)) = false := by decide) (hd : (a == ("__debug__" : Str)) = false := by decide) (hcd : (a == ("__classdict__" : Str)) = false := by decide) :
    PE X (.Call (.Name x p) [.Lambda params body scope lpos] [] pos) (tLm P (X.env.qual ++ "<lambda>") TT t) := by
  refine ⟨fun pins s σ H Q J ⟨hT, h⟩ => wpAny_Call_Name_kw (ld_glob J hg hm (PySem.W.callWith_K (h₀ := X.base) J.ok.mod.kin hk ?_ (by rfl) (by rfl)) hdb)⟩
  show wpAny _ _ (spliced ((false, eval (.Lambda params body scope lpos) X.env) :: backTo pos (starEach [] X.env))) _ _ s
  refine Calls.spliced_cons (lam_made J B ec hT ed (L.has J.ok) fun f d pm' ctv H1 z J1 st hf hn ho hc => Calls.spliced_nil ⟨J1.kIn, ?_⟩)
  have run : codeAny (model X.prog X.w) X.A (.call (.ref g) ⟨[.ref f], []⟩) (CR C8.CX0 X.stack X.prog X.w H1 z Q C8.E0) z := by
    refine run_ofS (N := Ng) (ps := [a]) (us := [.ref f]) (vs := [.ref f]) lk hcg Sg hr J1.env0 (hb z [.ref f] J1.kIn rfl) (.cons rfl .nil) rfl fun hr' => ?_
    obtain ⟨u, hu, q⟩ := hG f d z H1 Q (fun E H' Q' => t E σ H' Q') hr' (fun W pn xe p1 p2 tk => pe_actS (i := 0) (tb := t) J1 L hf hn ho (eb _ _ _ _ _) tk hr' (fun A outer s H E r2 => hbody A outer s H E f d r2) hNg hva hd hcd) hc (h H1 st)
    exact ⟨u, hu.nox, q⟩
  refine wpAny_call (codeAny_mono run fun r z2 e => ?_)
  cases r with
  | error y => exact (show False from e).elim
  | ok fl =>
    cases fl with
    | ret u => exact J1.after e
    | next => exact e.elim
    | brk => exact e.elim
    | cont => exact e.elim
/-- what is raised in a lambda's body goes to whoever called it -/
theorem lam_pass {X : Cx} {A : Around} {outer : List Env} {s : Shared} {H : Hp} {E : XK} {scope : Scope} {f d : Addr} : Passes (L2.CX X.prog X.w) (lamCx X A outer s H E scope f d) E :=
  passes_call (X := lamCx X A outer s H E scope f d) (W := fun cls d _ H => E cls d H) (takes_of (X := lamCx X A outer s H E scope f d) (E := E) rfl rfl rfl rfl) fun _ _ _ _ h => h
end LM
/-! B: tables of lambdas' code objects; what is refused, by a lambda; the top with tables -/
namespace B
open PySem PySem.Spec PyProof.Rows L2 LamX LM
open PySem.W (Tup T3 T4 Datum DatumOrd)
open Evl (Ex)
/-- the table of a def's lambdas stands at P -/
structure TabAt (W : Wd) (P : Addr) (q : Str) : Prop where
  b : W.B P = none
  ex : ∃ ps : Array Value, W.H P = some (.tbl ps) ∧ TriplesOk ps.toList ∧ ∀ (pos : Pos) (cv : Value), codeAmong pos ps.toList = some cv → ∃ c, cv = .ref c ∧ W.B c = some (CodeO c q) ∧ W.H c = some (CodeO c q)
section
variable {W W' : Wd} {P : Addr} {q : Str} {S : List Addr} {H1 : Hp}
theorem TabAt.nt (t : TabAt W P q) : Nt W.H P := by
  obtain ⟨ps, e, _⟩ := t.ex
  exact ⟨_, e, fun _ z => by cases z⟩
theorem TabAt.g (t : TabAt W P q) (g : Md S W W') (h : P ∉ S) : TabAt W' P q := by
  obtain ⟨ps, e, ok, all⟩ := t.ex
  have m := g.mut h e t.b
  exact ⟨m.2, ps, m.1, ok, fun pos cv hc => by
    obtain ⟨c, e1, e2, e3⟩ := all pos cv hc
    exact ⟨c, e1, g.b _ _ e2, g.l _ _ e2 e3⟩⟩
theorem TabAt.gr (t : TabAt W P q) (g : Grow W W') : TabAt W' P q := t.g g (by simp)
theorem TabAt.ts (t : TabAt W P q) : TabS W.H P q := by
  obtain ⟨ps, e, ok, all⟩ := t.ex
  exact ⟨ps, e, ok, fun pos cv hc => by
    obtain ⟨c, e1, _, e3⟩ := all pos cv hc
    exact ⟨c, e1, e3⟩⟩
theorem TabAt.step (t : TabAt W P q) (st : LamStep P q W.H H1) : ∃ W1 : Wd, W1.H = H1 ∧ Md [P] W W1 ∧ TabAt W1 P q := by
  rcases st with rfl | ⟨ps, pos, c, e, nc, rfl⟩
  · exact ⟨W, rfl, .refl _ _, t⟩
  · obtain ⟨ps', e', ok, all⟩ := t.ex
    rw [e] at e'
    cases e'
    let W1 := W.put P (.tbl (ps ++ #[rawInt pos.line, rawInt pos.col, .ref c])) t.b
    have m1 : Md [P] W W1 := md_put t.b
    have cP : c ≠ P := fun z => by rw [z, e] at nc; cases nc
    have nc1 : W1.H c = none := (upd_ne cP).trans nc
    have g2 : Grow W1 (W1.add c (CodeO c q)) := W1.grow_add nc1
    refine ⟨W1.add c (CodeO c q), rfl, m1.trans (Grow.s g2), ?_, _, (upd_ne cP.symm).trans upd_same, by
      rw [show (ps ++ #[rawInt pos.line, rawInt pos.col, .ref c]).toList = ps.toList ++ [rawInt pos.line, rawInt pos.col, .ref c] by simp]
      exact PySem.TriplesOk_snoc _ _ _ _ ok, fun p v hv => ?_⟩
    · show upd W1.B c _ P = none
      rw [upd_ne cP.symm]
      exact t.b
    · rw [show (ps ++ #[rawInt pos.line, rawInt pos.col, .ref c]).toList = ps.toList ++ [rawInt pos.line, rawInt pos.col, .ref c] by simp] at hv
      rcases among_app _ ok hv with z | z
      · obtain ⟨d, e1, e2, e3⟩ := all p v z
        have g := m1.trans (Grow.s (S := [P]) g2)
        exact ⟨d, e1, g.b _ _ e2, g.l _ _ e2 e3⟩
      · exact ⟨c, z, upd_same, upd_same⟩
end
/-- the effect of making lambdas -/
def lamE (P : Addr) (q : Str) : Ef := ⟨[P], fun W => TabAt W P q, fun W a s h => by
    rw [show a = P by simpa using h]
    exact s.nt,
  fun W W' b h s => by
    obtain ⟨h1, h2⟩ := h P (by simp) s.nt
    obtain ⟨ps, e, ok, all⟩ := s.ex
    refine ⟨h2.trans s.b, ps, h1.trans e, ok, fun pos cv hc => ?_⟩
    obtain ⟨c, e1, e2, e3⟩ := all pos cv hc
    have e4 := b _ _ e2
    refine ⟨c, e1, e4, ?_⟩
    rcases W'.sub c _ e4 with z | ⟨⟨kv, z⟩, _⟩
    · exact z
    · unfold CodeO at z; cases z⟩
/-- the body of a def that calls what it got, catches and tells by a word -/
abbrev tRef (K : Fg) (CL : Addr) (sw : Sp) (act : WX → TE) : TS :=
  tSeq (tAsg (tC .non) (gName 1)) (tSeq (fun D σ H => tDrop (act (BX.wAsK K (.ref CL) 2 (fun _ _ _ => tAsg (tVar 2) (gName 1)) (fun _ _ _ _ => False) D)) D σ H) (tRet (tCall sw [] E0 (tCons (tVar 1) tNil))))
def TTref (K : Fg) (CL : Addr) (sw : Sp) : (XK → Hp → VK → Prop) → Hp → VK → Prop := fun tl H Q =>
  ∀ f : Addr, tRef K CL sw (fun W σ H Q => tl (WE W σ) H Q) { nx := fun _ H' => Q .non H', rt := Q } [some (.ref f), none, none] H
section
variable {K : Fg} {CL C P : Addr} {sw : Sp} {t : XK → TE} {σ : SS} {W : Wd} {q : Str} {w : Str}
/-- what is refused is told by its word -/
theorem ev_refused (hx : PySem.W.exmOne K (.ref C) (.ref CL) = some true) (hw : ∀ (W : Wd) (a : Addr), W.H a = some (BX.ExK (.ref C) none a) → ∀ Q : VK, (∀ W', Grow W W' → Q (.str w) W'.H) → sw [.ref a] W.H Q E0)
    (hb : ∀ W1, Md [P] W W1 → ∀ (E : XK) (Q : VK), (∀ W2, Grow W1 W2 → E (.ref C) none W2.H) → t E σ W1.H Q) : EvR (lamE P q) K (tLm P q (TTref K CL sw) t) σ W w := fun W1 g1 Q k => by
  have t1 : TabAt W1 P q := g1.i
  refine ⟨t1.ts, fun H1 st => ?_⟩
  obtain ⟨W2, rfl, m2, t2⟩ := t1.step st
  refine fun f => hb W2 (g1.md.trans m2) _ _ fun W3 g3 => ⟨true, hx, fun _ a ha => ?_, fun z => by cases z⟩
  refine ⟨_, rfl, fun ha' => ?_⟩
  let W4 := W3.add a (BX.ExK (.ref C) none a)
  have g4 : Grow W3 W4 := W3.grow_add ha'
  refine ⟨_, rfl, hw W4 a upd_same Q fun W5 g5 => k _ W5 ⟨m2.trans (Grow.s (g3.trans (g4.trans g5))), t2.gr (g3.trans (g4.trans g5))⟩ rfl⟩
/-- nothing is refused -/
theorem ev_allowed {R : Wd → Prop} (hw : ∀ (W : Wd), ∀ Q : VK, (∀ W', Grow W W' → Q (.str "") W'.H) → sw [.non] W.H Q E0)
    (hb : ∀ W1, Md [P] W W1 → ∀ (E : XK) (Q : VK), (∀ v W2, Grow W1 W2 → Q v W2.H) → t E σ W1.H Q) : EvR (lamE P q) K (tLm P q (TTref K CL sw) t) σ W ("" : Str) := fun W1 g1 Q k => by
  have t1 : TabAt W1 P q := g1.i
  refine ⟨t1.ts, fun H1 st => ?_⟩
  obtain ⟨W2, rfl, m2, t2⟩ := t1.step st
  refine fun f => hb W2 (g1.md.trans m2) _ _ fun v W3 g3 => ⟨_, rfl, hw W3 Q fun W5 g5 => k _ W5 ⟨m2.trans (Grow.s (g3.trans g5)), t2.gr (g3.trans g5)⟩ rfl⟩
end
/-- what a call of it gives -/
theorem gives_ref {X : Cx} {Ng : List Str} {x a q : Str} {sg : Scope} {g : Addr} {cdg : Value} {bg : List Stmt} {k : Nat} {CL : Addr} {sw : Sp} (h3 : Ng.length = 3)
    (body : ∀ (f d : Addr) (s : Shared) (H : Hp) (tl : XK → Hp → VK → Prop), Room k (X.A.deeper (envOfC x sg s.heap.objs.size g cdg)) →
      (∀ (W : WX) (pn : List (Addr × Obj)) (xe : Value → Shared → Prop) (p1 p2 : Pos), Takes ((cxOf C8.CX0 X.prog X.w X.K X.mg X.base Ng x sg g cdg X.A X.stack s H C8.E0).tr pn xe) W →
        PE ((cxOf C8.CX0 X.prog X.w X.K X.mg X.base Ng x sg g cdg X.A X.stack s H C8.E0).tr pn xe) (.Call (.Name a p1) [] [] p2) (fun σZ HZ Q => σZ[0]? = some (some (.ref f)) ∧ HZ d = some (CodeO d q) ∧ tl (WE W σZ) HZ Q)) →
      PSs (cxOf C8.CX0 X.prog X.w X.K X.mg X.base Ng x sg g cdg X.A X.stack s H C8.E0).nox bg (tRef X.K CL sw (fun W σZ HZ Q => σZ[0]? = some (some (.ref f)) ∧ HZ d = some (CodeO d q) ∧ tl (WE W σZ) HZ Q))) :
    Gives X Ng x sg g cdg bg a q k (TTref X.K CL sw) := fun f d s H Q tl hr act hc h => by
  refine ⟨_, body f d s H tl hr act, ?_⟩
  have e : L2.start Ng [V.ref f] = [some (.ref f), none, none] := by
    match Ng, h3 with
    | [_, _, _], _ => rfl
  rw [e]
  exact ⟨rfl, hc, h f⟩
/-! ### addresses told by the top's names -/
def tabC (K : Fg) (x : Str) : Addr := match PySem.W.tabIn K x with
  | some (c, _) => c
  | _ => 0
def tabP (K : Fg) (x : Str) : Addr := match PySem.W.tabIn K x with
  | some (_, P) => P
  | _ => 0
theorem tabC_of {K : Fg} {x : Str} {c P : Addr} (h : PySem.W.tabIn K x = some (c, P)) : tabC K x = c := by
  unfold tabC
  rw [h]
theorem tabP_of {K : Fg} {x : Str} {c P : Addr} (h : PySem.W.tabIn K x = some (c, P)) : tabP K x = P := by
  unfold tabP
  rw [h]
/-- a def of which the code object is known -/
structure FunC (K : Fg) (x qual : Str) (st : Stmt) (f : Addr) (fd : FuncData) (c : Addr) : Prop where
  ex : ∃ (oc : Value) (od : Option Addr) (kV doc pm : Value) (an : Option Addr) (ct : Value) (osl : Array (Option Value)),
    fd = PySem.W.fnOf x qual (defArgs st) (defBody st) (defScope st) .none kV doc pm an (.ref c) ct ∧ K.lookup f = some ⟨oc, od, .func fd, osl⟩ ∧ PySem.W.codeIn K (.ref c) qual = true
  kp : PySem.W.keepIn K (.ref f) = true
section
variable {P : Program} {w : World} {K : Fg} {mg : Str → Option Value} {base : Heap}
theorem FunC.okC {x qual : Str} {st : Stmt} {f c : Addr} {fd : FuncData} {N ps : List Str} {k : Nat} {sp : Sp} (F : FunC K x qual st f fd c) (S : FnScope N ps (defScope st)) (len : ∀ vs H Q E, sp vs H Q E → vs.length = ps.length)
    (body : ∀ (A : Around) (outer : List Env) (s : Shared) (H : Hp) (vs : List V) (Q : VK) (E : XK), Room k (A.deeper (envOfC qual (defScope st) s.heap.objs.size f (.ref c))) → sp vs H Q E →
      ∃ t, PSs (cxOf CX0 P w K mg base N qual (defScope st) f (.ref c) A outer s H E).nox (defBody st) t ∧ t { nx := fun _ H' => Q .non H', rt := Q } (start N vs) H) : FnOk P w K mg base CX0 (k + 1) f fd ps sp := by
  obtain ⟨oc, od, kV, doc, pm, an, ct, osl, rfl, lk, hcd⟩ := F.ex
  exact fn_of lk hcd S len fun A outer s H vs Q E hr hsp => by
    obtain ⟨t, h, q⟩ := body A outer s H vs Q E hr hsp
    exact ⟨t, h.nox, q⟩
theorem okGC {x qual : Str} {st : Stmt} {f c : Addr} {fd : FuncData} {N ps : List Str} {k : Nat} {sp : Sp} (F : FunC K x qual st f fd c) (S : FnScope N ps (defScope st)) (ln : ∀ vs H Q E, sp vs H Q E → vs.length = ps.length)
    (body : ∀ (A : Around), A.guards = some [] → ∀ (outer : List Env) (s : Shared) (H : Hp) (vs : List V) (Q : VK) (E : XK), Room k (A.deeper (envOfC qual (defScope st) s.heap.objs.size f (.ref c))) → sp vs H Q E →
      ∃ t, PSs (cxOf CX0 P w K mg base N qual (defScope st) f (.ref c) A outer s H E).nox (defBody st) t ∧ t { nx := fun _ H' => Q .non H', rt := Q } (start N vs) H) : FnG P w K mg base (k + 1) f fd ps sp := by
  obtain ⟨oc, od, kV, doc, pm, an, ct, osl, rfl, lk, hcd⟩ := F.ex
  refine ⟨ln, fun {A outer s H args us vs Q E} hg hr e0 hb r h => ?_⟩
  have same : ∀ b o, base.get? b = some o → s.heap.get? b = some o := fun b o z => (e0.bs b o z).1
  have inK := e0.mod.kin.keeps same
  obtain ⟨t, ht, q⟩ := body A hg outer s H vs Q E (hr.deeper _) h
  refine codeAny_call_function hr.depth (inK _ _ lk) rfl S.co S.gen rfl (PySem.W.codeRec_of inK hcd) (hb _ _ _ _ (wpAny_newFunctionEnv_cells S.kind (fun y hy => ?_) fun env he s1 z => ?_))
  · obtain ⟨n, v⟩ := y
    exact (S.par n (List.of_mem_zip hy).1).imp id fun c => ⟨c, PySem.W.cellsFrom_some _ _ _ (.inl c)⟩
  · subst he
    refine ⟨(e0.mod.nolimit.keeps same).keeps z.toInCall.keep, codeAny_func (wpAny_mono (ht.nox.run [] s1 (start N vs) H _ (inv_start S hr.hd e0 (ln _ _ _ _ h) r z) q) (fun fl s' d => ?_) fun _ _ d => d)⟩
    cases fl with
    | ret u => obtain ⟨v, σ', H', J, rv, d⟩ := d; exact end_of (X := cxOf CX0 P w K mg base N qual (defScope st) f (.ref c) A outer s H E) J rv d
    | next => obtain ⟨σ', H', J, d⟩ := d; exact end_of (X := cxOf CX0 P w K mg base N qual (defScope st) f (.ref c) A outer s H E) (v := .non) J rfl d
    | brk => obtain ⟨_, _, _, d⟩ := d; exact d.elim
    | cont => obtain ⟨_, _, _, d⟩ := d; exact d.elim
end
end B
/-! B: the top where defs hold lambdas; list.count of flat things; the word of a refusal -/
namespace B
open PySem PySem.Spec PyProof.Rows L2 LamX LM
/-- the abstract heap at the top: the script, and the tables, still empty -/
def topT (K : Fg) (a : Addr) (o : Obj) (ns : List Int) (ps : List Addr) : Hp := fun b => if b = a ∧ K.lookup a = none then some (.frz o (.lst (ns.map V.int))) else if b ∈ ps then some (.tbl #[]) else none
section
variable {P : Program} {w : World} {K : Fg} {mg mb : Str → Option Value} {a fa : Addr} {s : Shared} {vs : List Value} {ns : List Int} {k : Nat} {fd : FuncData} {x : Str} {sp : Sp} {cs : List (Addr × Addr)}
theorem topT_some {o : Obj} {ps : List Addr} {b : Addr} {u : HO} (h : topT K a o ns ps b = some u) : (b = a ∧ K.lookup a = none ∧ u = .frz o (.lst (ns.map V.int))) ∨ (b ∈ ps ∧ u = .tbl #[]) := by
  unfold topT at h
  split at h
  · rename_i c; exact .inl ⟨c.1, c.2, (Option.some.inj h).symm⟩
  · split at h
    · rename_i c; exact .inr ⟨c, (Option.some.inj h).symm⟩
    · cases h
theorem topT_none {o : Obj} {ps : List Addr} {b : Addr} (h1 : ¬ (b = a ∧ K.lookup a = none)) (h2 : b ∉ ps) : topT K a o ns ps b = none := by
  unfold topT
  rw [if_neg h1, if_neg h2]
theorem top_lawT (KX : K.In s.heap) (hns : s.heap.Ns mainGlobals mg) (hb : s.heap.Ns builtinsNs mb) (hbb : ∀ x : Str, x ≠ "__name__" → mb x = bootBuiltins x) (hlim : s.heap.NoLimit) (hg : s.gens = #[])
    (ht : ∀ p ∈ cs, s.heap.get? p.2 = some { cls := .none, data := .fields #[] }) (kt : ∀ p ∈ cs, K.lookup p.2 = none) (ct : ∀ p ∈ cs, PySem.W.CodeHd s.heap p.1 p.2)
    (hm : ∃ (bm : Addr) (ob : Obj), mg "__builtins__" = some (.ref bm) ∧ bm ≠ builtinsNs ∧ s.heap.get? bm = some ob ∧ ob.cls = .type "module" ∧ ob.dict = some builtinsNs ∧ ob.data = .plain)
    (ha : s.heap.get? a = some { cls := .type "list", data := .seq vs.toArray }) (hi : IntsAre vs ns) (hl : ns.length ≤ sizeLine)
    (hr : Room k callerA) (F : ∀ base : Heap, K.In base → base.Ns mainGlobals mg → (∀ p ∈ cs, TabB base mg p.1 p.2) → FnG P w K mg base k fa fd [x] sp) (hbind : ∀ (s : Shared) (u : Value), BindsTo s fd ⟨[u], []⟩ [(x, u)])
    (hsp : ∀ H : Hp, (∀ p ∈ cs, H p.2 = some (.tbl #[]) ∧ a ≠ p.2) → SqL K H a (ns.map V.int) → sp [.ref a] H (fun v _ => v = .bl true) fun _ _ _ => False) :
    codeAny (model P w) callerA (.call (.ref fa) ⟨[.ref a], []⟩) (fun r s' => r = .ok (.ret (.bool true)) ∧ OldK s.heap s'.heap ∧ s'.os = s.os ∧ AllBare s'.gens) s := by
  let ps := cs.map (·.2)
  let o : Obj := { cls := .type "list", data := .seq vs.toArray }
  let H := topT K a o ns ps
  have mem : ∀ {b : Addr}, b ∈ ps → s.heap.get? b = some { cls := .none, data := .fields #[] } ∧ K.lookup b = none := fun {b} hb => by
    obtain ⟨p, hp, e⟩ := List.mem_map.mp hb
    rw [← e]
    exact ⟨ht p hp, kt p hp⟩
  have na : a ∉ ps := fun z => by
    have := (mem z).1
    rw [ha] at this
    have e : Data.seq vs.toArray _ = Data.fields #[] := congrArg Obj.data (Option.some.inj this)
    cases e
  have inp : ∀ p ∈ cs, p.2 ∈ ps := fun p hp => List.mem_map.mpr ⟨p, hp, rfl⟩
  have stay : ∀ {b : Addr} {u : Obj}, s.heap.get? b = some u → (b = a → K.lookup a = none → False) → (u.data ≠ .fields #[]) → (hidT s.heap H).get? b = some u := fun {b u} z n1 n2 => hidT_get z (topT_none (fun c => n1 c.1 c.2) fun c => by
    rw [(mem c).1] at z
    cases z
    exact n2 rfl)
  have ns' : ∀ {b : Addr} {m : Str → Option Value}, s.heap.Ns b m → (hidT s.heap H).Ns b m := fun {b m} ⟨u, es, ep, z1, z2, z3⟩ => ⟨u, es, ep, stay z1 (fun c _ => by
    rw [c, ha] at z1
    cases z1
    cases z2) (by rw [z2]; exact fun z => by cases z), z2, z3⟩
  have kin : K.In (hidT s.heap H) := fun b u z => hidT_get (KX b u z) (topT_none (fun c => by
    rw [c.1, c.2] at z
    cases z) fun c => by
    rw [(mem c).2] at z
    cases z)
  have hok : HOk P w H s.heap := fun b u z => by
    rcases topT_some z with ⟨rfl, _, rfl⟩ | ⟨c, rfl⟩
    · exact ⟨ha, by rw [List.length_map]; exact hl, vs, _, vals_ints hi, ha⟩
    · exact (mem c).1
  obtain ⟨mc, l1, l2⟩ := hlim
  have e0 : Env0 P w K mg (hidT s.heap H) callerA [] s H := ⟨rfl, ⟨kin, ns' hns, ⟨mb, ns' hb, hbb⟩, mc, ns' l1, l2⟩, fun b u z => of_hidT z, Nat.le_of_eq (hidT_size _ _), trivial, fun b z => (nomatch z), hok, .of_eq hg⟩
  have tb : ∀ p ∈ cs, TabB (hidT s.heap H) mg p.1 p.2 := fun p hp => by
    have htp := ht p hp
    refine ⟨?_, ?_, fun z => ?_⟩
    · obtain ⟨u, us, file, tf, flags, tg, inF, text, tt, e1, r1, r2, r3, rest⟩ := ct p hp
      refine ⟨u, us, file, tf, flags, tg, inF, text, tt, stay e1 (fun c _ => ?_) (fun z => ?_), r1, r2, r3, rest⟩
      · rw [c, ha] at e1
        cases e1
        cases r2
      · rw [r2] at z
        cases z
        simp at r3
    · obtain ⟨bm, ob, b1, b2, b3, b4, b5, b6⟩ := hm
      refine ⟨bm, ob, b1, b2, fun q => ?_, fun q => ?_, stay b3 (fun c _ => ?_) (by rw [b6]; exact fun z => by cases z), b4, b5, b6⟩
      · obtain ⟨u, es, ep, e, hd, _⟩ := hns
        rw [q, e] at b3
        cases b3
        rw [hd] at b6
        cases b6
      · rw [q, htp] at b3
        cases b3
        cases b6
      · rw [c, ha] at b3
        cases b3
        cases b6
    · obtain ⟨u, es, ep, e, hd, _⟩ := hns
      rw [z, htp] at e
      cases e
      cases hd
  have seq : SqL K H a (ns.map V.int) := by
    cases e : K.lookup a with
    | none => exact .inl (.inr ⟨_, if_pos ⟨rfl, e⟩⟩)
    | some u =>
      have := (KX a u e).symm.trans ha
      cases this
      exact .inr ⟨_, vs.toArray, _, e, rfl, rfl, rfl, by rw [List.size_toArray, hi.length]; exact hl, by simpa using vals_ints hi⟩
  have tbl : ∀ p ∈ cs, H p.2 = some (.tbl #[]) ∧ a ≠ p.2 := fun p hp => by
    have ne : a ≠ p.2 := fun z => na (by rw [z]; exact inp p hp)
    exact ⟨(if_neg fun c => ne c.1.symm).trans (if_pos (inp p hp)), ne⟩
  refine codeAny_mono ((F _ kin (ns' hns) tb).go (us := [.ref a]) (vs := [.ref a]) rfl hr e0 (hbind s (.ref a)) (.cons rfl .nil) (hsp H tbl seq)) fun r s' d => ?_
  cases r with
  | error e => exact absurd d (by intro z; exact z.elim)
  | ok fl =>
    cases fl with
    | next => exact d.elim
    | brk => exact d.elim
    | cont => exact d.elim
    | ret u =>
      obtain ⟨v, H', hos, hbare, un, ok', rv, rfl⟩ := d
      cases (show u = Value.bool true from rv)
      have grown : ∀ p ∈ cs, ∃ more : Array Value, s'.heap.get? p.2 = some { cls := .none, data := .fields more } := fun p hp => by
        obtain ⟨more, z⟩ := un.tbls p.2 #[] (tbl p hp).1
        exact ⟨_, ok' p.2 _ z⟩
      have other : ∀ b u, b ∉ ps → s.heap.get? b = some u → s'.heap.get? b = some u := fun b u nb z => by
        cases q : H b with
        | none => exact un.keep b u z q (fun c => nomatch c) (fun c => nomatch c)
        | some y =>
          rcases topT_some q with ⟨rfl, _, rfl⟩ | ⟨c, _⟩
          · have := (ok' _ _ (un.frzs _ _ _ q)).1
            rw [ha] at z
            cases z
            exact this
          · exact absurd c nb
      refine ⟨rfl, ⟨fun b u z => ?_, fun b u z => ?_⟩, hos, hbare⟩
      · by_cases c : b ∈ ps
        · obtain ⟨p, hp, e⟩ := List.mem_map.mp c
          obtain ⟨more, hmo⟩ := grown p hp
          have e : p.2 = b := e
          subst e
          rw [ht p hp] at z
          cases z
          exact .inr (.inl ⟨((ct p hp).tab (ht p hp)).isCodeTable, rfl, #[], more, rfl, by rw [Array.empty_append]; exact hmo⟩)
        · exact .inl (other b u c z)
      · by_cases c : b ∈ ps
        · obtain ⟨p, hp, e⟩ := List.mem_map.mp c
          obtain ⟨more, hmo⟩ := grown p hp
          have e : p.2 = b := e
          exact ⟨_, e ▸ hmo⟩
        · exact ⟨u, other b u c z⟩
end
theorem walkGT {xs : List Str} {l : PySem.W.OpenLaw} {n k : Nat} {q : Program} {loose : List Str} {XP : (Str → Option Value) → Heap → Prop} {YP : World → Heap → Prop} {d : DefRec} {K : Params → Fg} {sp : World → Sp} {x : Str} (hn : l.most = some n) (hn2 : n ≤ sizeLine) (hdf : d.params.defaults = []) (hr : Room k callerA)
    (hrec : (xs.all fun x => ((recsOf q).find? fun e => e.name == x).isSome) = true) (hY : ∀ (w : World) (h : Heap), YP w h → (K w.params).In h)
    (F : ∀ (w : World) (mg : Str → Option Value) (fa : Addr) (h : Heap), (K w.params).In h → h.Ns mainGlobals mg → mg d.name = some (.ref fa) → ∃ fd : FuncData, (∀ (s : Shared) (u : Value), BindsTo s fd ⟨[u], []⟩ [(x, u)]) ∧
      (∀ x ∈ xs, ∃ c P, PySem.W.tabIn (K w.params) x = some (c, P) ∧ (K w.params).lookup P = none) ∧
      ∀ base : Heap, (K w.params).In base → base.Ns mainGlobals mg → (∀ x ∈ xs, TabB base mg (tabC (K w.params) x) (tabP (K w.params) x)) → FnG l.prog w (K w.params) mg base k fa fd [x] (sp w))
    (hsp : ∀ (w : World) (H : Hp) (a : Addr) (ns : List Int), ns.length ≤ n → (∀ x ∈ xs, H (tabP (K w.params) x) = some (.tbl #[]) ∧ a ≠ tabP (K w.params) x) → SqL (K w.params) H a (ns.map V.int) → sp w [.ref a] H (fun v _ => v = .bl true) fun _ _ _ => False) :
    PySem.W.WalkO q loose XP YP l.row.toRowW d [] (fun f vs => PySem.call f vs) :=
  Att.attach_call hn hdf fun w s₀ s₁ mg mb fa o pm cd doc a vs ns G Y ho hd hcd hmg hobj hints hlen hg => by
    have KX := hY w _ Y
    obtain ⟨fd, hb, ht, hF⟩ := F w mg fa _ KX G.T.g hmg
    have tabs : ∀ x ∈ xs, PySem.W.CodeHd s₁.heap (tabC (K w.params) x) (tabP (K w.params) x) ∧ s₁.heap.get? (tabP (K w.params) x) = some { cls := .none, data := .fields #[] } ∧ (K w.params).lookup (tabP (K w.params) x) = none := fun x hx => by
      obtain ⟨c, P, e, e2⟩ := ht x hx
      obtain ⟨r, hr⟩ := Option.isSome_iff_exists.mp (List.all_eq_true.mp hrec x hx)
      have := PySem.W.tab_of G.T KX hr e
      rw [tabC_of e, tabP_of e]
      exact ⟨this.1, this.2, e2⟩
    let cs := xs.map fun x => (tabC (K w.params) x, tabP (K w.params) x)
    have all : ∀ (R : Addr × Addr → Prop), (∀ x ∈ xs, R (tabC (K w.params) x, tabP (K w.params) x)) → ∀ p ∈ cs, R p := fun R h p hp => by
      obtain ⟨x, hx, rfl⟩ := List.mem_map.mp hp
      exact h x hx
    refine top_lawT (cs := cs) KX G.T.g G.T.b G.T.builtins G.T.nolimit hg (all _ fun x hx => (tabs x hx).2.1) (all _ fun x hx => (tabs x hx).2.2) (all _ fun x hx => (tabs x hx).1) G.T.bmain hobj hints (Nat.le_trans hlen hn2) hr (fun base h1 h2 h3 => hF base h1 h2 fun x hx => h3 _ (List.mem_map.mpr ⟨x, hx, rfl⟩)) hb fun H hH hS => hsp w H a ns hlen (fun x hx => hH _ (List.mem_map.mpr ⟨x, hx, rfl⟩)) hS
/-! ### list.count, flat things -/
section
variable {X : Cx}
def rCntF (K : Fg) : V → List V → Hp → VK → Prop := fun x xs H Q => ∃ (a : Addr) (ys : List V) (y : V), x = V.ref a ∧ xs = [y] ∧ SqL K H a ys ∧ flatV y = true ∧ ys.all flatV = true ∧ Q (.int (ys.countP (fun z => eqV z y) : Nat)) H
theorem cnt_flat {y : V} {uy : Value} (ry : RelV y uy) (fy : flatV y = true) : ∀ {ys : List V} {us : List Value}, Vals ys us → ys.all flatV = true → us.countP (eqU y) = ys.countP (fun z => eqV z y)
  | _, _, .nil, _ => rfl
  | _, _, .cons r rs, f => by
    rw [List.all_cons, Bool.and_eq_true] at f
    rw [List.countP_cons, List.countP_cons, cnt_flat ry fy rs f.2, eqU_of r f.1]
theorem mt_countF : MtR X "list.count" (rCntF X.K) := by
  intro pins s σ H x xs v us Q I rx rxs h
  obtain ⟨a, ys, y, rfl, rfl, hs, fy, fys, q⟩ := h
  cases rx
  obtain ⟨uy, rfl, ry⟩ := rxs.one
  obtain ⟨its, rv, ⟨⟨cls, dd, data, sl⟩, n, ho, hc, hdn, hd⟩, _⟩ := I.list hs
  simp only at hc hd
  subst hc hd
  refine call_meets PySem.F.slot_list_count ⟨_, ho, rfl⟩ PySem.F.entry_list_count (PySem.F.args_list_count_2 _ _)
    (SeqAt.list_countAt a its.toArray n dd sl uy (eqU y)) ⟨ho, fun u hu => mem_eqAt ry fy rv fys u (by simpa using hu), ?_⟩
  refine ⟨.int (ys.countP (fun z => eqV z y) : Nat), H, I.tok _, ⟨s.toks, ?_⟩, q⟩
  rw [show its.toArray.toList.countP (eqU y) = ys.countP (fun z => eqV z y) by rw [List.toList_toArray]; exact cnt_flat ry fy rv fys]
end
theorem tab_mk {K : Fg} {x : Str} {f C Pp : Addr} {oc o1 : Value} {od o2 : Option Addr} {fd : FuncData} {osl s2 : Array (Option Value)} {vs : Array Value} (a : PySem.W.nsIn K mainGlobals x = some (some (.ref f))) (l : K.lookup f = some ⟨oc, od, .func fd, osl⟩) (hc : fd.code = .ref C)
    (lc : K.lookup C = some ⟨o1, o2, .fields vs, s2⟩) (hv : (vs[11]? : Option Value) = some (.ref Pp)) : PySem.W.tabIn K x = some (C, Pp) := by
  unfold PySem.W.tabIn
  rw [a]
  dsimp only
  rw [l]
  dsimp only
  rw [hc]
  dsimp only
  rw [lc]
  dsimp only
  rw [hv]
theorem funC_mk {K : Fg} {x q : Str} {st : Stmt} {f C Pp : Addr} {oc : Value} {od an : Option Addr} {osl : Array (Option Value)} {kV doc pm ct : Value} (ti : PySem.W.tabIn K q = some (C, Pp))
    (l : K.lookup f = some ⟨oc, od, .func (PySem.W.fnOf x q (defArgs st) (defBody st) (defScope st) .none kV doc pm an (.ref C) ct), osl⟩) (c : PySem.W.codeIn K (.ref C) q = true) (k : PySem.W.keepIn K (.ref f) = true) :
    FunC K x q st f (PySem.W.fnOf x q (defArgs st) (defBody st) (defScope st) .none kV doc pm an (.ref (tabC K q)) ct) (tabC K q) := by
  rw [tabC_of ti]
  exact ⟨⟨oc, od, kV, doc, pm, an, ct, osl, rfl, l, c⟩, k⟩
/-- what is raised in a lambda's body goes to whoever called it, told over any name of the context -/
theorem lam_passE {X : Cx} {A : Around} {outer : List Env} {s : Shared} {H : Hp} {E : XK} {scope : Scope} {f d : Addr} {CC : _} (h : CC = L2.CX X.prog X.w := by rfl) : Passes CC (lamCx X A outer s H E scope f d) E := by
  subst h
  exact LM.lam_pass
/-- x(lambda: ..), the def told by its row -/
theorem pe_lmF {X : Cx} {TT : (XK → Hp → VK → Prop) → Hp → VK → Prop} {x a : Str} {g c P : Addr} {k : Nat} {st : Stmt} {fd : FuncData} {Ng : List Str} {params : Arguments} {body : Expr} {scope : Scope} {t : XK → TE} {p lpos pos : Pos} (hg : Gl X x) (hm : X.mg x = some (.ref g))
    (F : Fun X.K x x st g fd) (hb : Binds X.K fd [a] []) (Sg : FnScope Ng [a] (defScope st)) (hNg : Ng[0]? = some a) (hva : Vis (defScope st) a) (hG : ∀ cdg, Gives X Ng x (defScope st) g cdg (defBody st) a (X.env.qual ++ "<lambda>") (k + 1) TT)
    (tb : TabB X.base X.mg c P) (ec : X.env.code = .ref c) (hr : Room (k + 2) X.A) (L : LamS X.env.scope scope) (ed : defaultsOf params X.env = ([], [])) (eb : ∀ (q : Str) (cl : List (Str × Addr)) (pm cv ctv : Value), bindArgs (PySem.W.kla_fn "<lambda>" q params body scope cl pm cv ctv) ⟨[], []⟩ = pure [])
    (hbody : ∀ (A : Around) (outer : List Env) (s : Shared) (H : Hp) (E : XK) (f d : Addr), Room k (A.deeper (lamEnv X scope s.heap.objs.size f d)) → PE (lamCx X A outer s H E scope f d) body (t E))
    (hdb : (x == ("__debug__" : Str)) = false := by decide) (hd : (a == ("__debug__" : Str)) = false := by decide) (hcd : (a == ("__classdict__" : Str)) = false := by decide) :
    PE X (.Call (.Name x p) [.Lambda params body scope lpos] [] pos) (tLm P (X.env.qual ++ "<lambda>") TT t) := by
  obtain ⟨oc, od, kV, doc, pm, an, cdv, ct, osl, rfl, lk, hcd'⟩ := F.ex
  exact pe_lm hg hm F.kp lk hcd' hb Sg hNg hva (hG cdv) tb ec hr L ed eb hbody hdb hd hcd
/-- how the arguments of a def whose code object is known bind -/
theorem FunC.binds {K : Fg} {x qual : Str} {st : Stmt} {f c : Addr} {fd : FuncData} {ps : List Str} (F : FunC K x qual st f fd c)
    (h : ∀ (kV doc pm : Value) (an : Option Addr) (cdv ct : Value) (us : List Value), us.length = ps.length → bindArgs (PySem.W.fnOf x qual (defArgs st) (defBody st) (defScope st) .none kV doc pm an cdv ct) ⟨us, []⟩ = pure (ps.zip us)) : Binds K fd ps [] := by
  obtain ⟨oc, od, kV, doc, pm, an, ct, osl, rfl, lk, hcd⟩ := F.ex
  exact .all (h kV doc pm an (.ref c) ct)
end B
/-! SK: sorted(.., key=lambda x: ..), the lambda made anew each time; what it captures stays -/
namespace SK
open PySem PySem.Spec PyProof.Rows L2 LamX LM
/-- a lambda of one parameter -/
structure LamP (sc scope : Scope) (x : Str) : Prop where
  kind : scope.kind = .function
  co : scope.isCoroutine = false
  gen : scope.isGenerator = false
  par : scope.names.lookup x = some .local
  own : ∀ y ∈ scope.names, y.2 ≠ .cell ∧ (y.2 = .local → y.1 = x)
  free : ∀ y ∈ scope.names, y.2 = .free → sc.names.lookup y.1 = some .cell ∨ sc.names.lookup y.1 = some .free
def lamPB (sc scope : Scope) (x : Str) : Bool := decide (scope.kind = .function) && !scope.isCoroutine && !scope.isGenerator && decide (scope.names.lookup x = some .local) &&
  scope.names.all fun y => !decide (y.2 = .cell) && (!decide (y.2 = .local) || decide (y.1 = x)) && (!decide (y.2 = .free) || decide (sc.names.lookup y.1 = some .cell) || decide (sc.names.lookup y.1 = some .free))
theorem lamP_by {sc scope : Scope} {x : Str} (h : lamPB sc scope x = true) : LamP sc scope x := by
  unfold lamPB at h
  simp only [Bool.and_eq_true, Bool.not_eq_true', decide_eq_true_eq, List.all_eq_true, Bool.or_eq_true, decide_eq_false_iff_not] at h
  obtain ⟨⟨⟨⟨h1, h2⟩, h3⟩, h4⟩, h5⟩ := h
  refine ⟨h1, h2, h3, h4, fun y hy => ⟨(h5 y hy).1.1, fun e => ?_⟩, fun y hy e => ?_⟩
  · rcases (h5 y hy).1.2 with z | z
    · exact absurd e z
    · exact z
  · rcases (h5 y hy).2 with (z | z) | z
    · exact absurd e z
    · exact .inl z
    · exact .inr z
section
variable {X : Cx} {pins : List (Addr × Obj)} {σ : L2.St} {H HZ : Hp} {s s1 : Shared}
theorem LamP.has {scope : Scope} {x : Str} (L : LamP X.env.scope scope x) (ok : X.Ok) : ∀ y ∈ scope.names, y.2 = .free → ∃ c, X.env.cells.lookup y.1 = some c := fun y hy e => ok.has y.1 (L.free y hy e)
theorem lam_start1 {A : Around} {outer : List Env} {E : XK} {scope : Scope} {x : Str} {f c' : Addr} {h₁ : Heap} {tk i : Nat} {v : V} {u : Value} (I : Inv X pins σ H s) (L : LamP X.env.scope scope x) (e0 : Env0 X.prog X.w X.K X.mg X.base A outer s1 HZ) (hd : A.handled = none)
    (un : Un (frs X.stack) [] H HZ s.heap s1.heap) (hns : h₁.Ns s1.heap.objs.size fun y => [(x, u)].reverse.lookup y) (kp : ∀ b o, s1.heap.get? b = some o → h₁.get? b = some o) (hN : X.N[i]? = some x) (nd : X.N.Nodup) (r : RelV v u) :
    Inv (lamCx X A outer s1 HZ E scope f c') [] (σ.set i (some v)) HZ { s1 with heap := h₁, toks := tk } := by
  have cm : ∀ {y c}, (cloFrom X.env.cells scope.names []).lookup y = some c → X.env.cells.lookup y = some c := fun {y c} e => by
    rcases cloFrom_mem (mem_of_lookup e) with hm | ⟨h1, h2⟩
    · cases hm
    · obtain ⟨c1, hc⟩ := L.has I.ok _ h1 rfl
      have hc' : X.env.cells.lookup y = some c1 := hc
      rw [hc'] at h2
      rw [hc', h2]
      rfl
  have look : ∀ {y}, scope.names.lookup y = some .free → ∃ c, (cloFrom X.env.cells scope.names []).lookup y = some c := fun {y} hl => L2.mem_lookup (cloFrom_has (mem_of_lookup hl))
  have cellK : ∀ {c : Addr} {w : Value}, H c = none → s.heap.IsCell c (some w) → h₁.IsCell c (some w) := fun {c w} n ⟨o, ho, hd⟩ => by
    obtain ⟨sl, q⟩ := un.any ho n (by simp)
    exact ⟨_, kp c _ q, hd⟩
  have cellA : ∀ {c : Addr} {w : Option Value}, H c = none → s.heap.IsCell c w → h₁.IsCell c w := fun {c w} n ⟨o, ho, hd⟩ => by
    obtain ⟨sl, q⟩ := un.any ho n (by simp)
    exact ⟨_, kp c _ q, hd⟩
  have nocell : ∀ {y}, scope.names.lookup y = some .cell → False := fun {y} hy => (L.own _ (mem_of_lookup hy)).1 rfl
  refine ⟨⟨e0.mod, L.kind, rfl, rfl, Nat.le_refl _, fun y z c e1 e2 => I.ok.inj y z c (cm e1) (cm e2), fun y hy => ?_, fun y c z _ => (by cases z), fun _ => hd, Around.frames_deeper e0.frames, .inr ⟨rfl, rfl⟩, fun b z => (by cases z), e0.bs, e0.bsz, fun b o _ z => (by cases z), fun b z => (by cases z), e0.funs, e0.frf⟩,
    rfl, e0.bare, Un.kept kp, ⟨fun y => [(x, u)].reverse.lookup y, hns, fun j y w e1 e2 e3 => ?_⟩, fun y c e => ?_, e0.hok.fresh (Nat.le_refl _), fun y c e => ?_, fun q hq => ?_, e0.hok.kept kp, ?_⟩
  · rcases (show scope.names.lookup y = some .cell ∨ scope.names.lookup y = some .free from hy) with z | z
    · exact (nocell z).elim
    · exact look z
  · by_cases hj : j = i
    · subst hj
      have : y = x := Option.some.inj (e1.symm.trans hN)
      subst this
      have lt : j < σ.length := by
        have := I.len
        have h2 := (List.getElem?_eq_some_iff.mp hN).1
        omega
      rw [List.getElem?_set_self lt] at e2
      cases e2
      refine ⟨u, r, .inl ⟨L.par, ?_⟩⟩
      show [(y, u)].reverse.lookup y = some u
      simp [List.lookup]
    · rw [List.getElem?_set_ne (Ne.symm hj)] at e2
      have nx : y ≠ x := fun z => by
        subst z
        obtain ⟨hj1, hj2⟩ := List.getElem?_eq_some_iff.mp e1
        obtain ⟨hi1, hi2⟩ := List.getElem?_eq_some_iff.mp hN
        exact hj ((List.getElem?_inj hj1 nd).mp (e1.trans hN.symm))
      rcases (show scope.names.lookup y = some .local ∨ scope.names.lookup y = some .cell ∨ scope.names.lookup y = some .free from e3) with z | z | z
      · exact absurd ((L.own _ (mem_of_lookup z)).2 rfl) nx
      · exact (nocell z).elim
      · obtain ⟨m, hn, hl⟩ := I.loc
        have hvis : Vis X.env.scope y := (L.free _ (mem_of_lookup z) rfl).elim (fun k => .inr (.inl k)) fun k => .inr (.inr k)
        obtain ⟨w', r', q⟩ := hl j y w e1 e2 hvis
        obtain ⟨c2, h2⟩ := look z
        refine ⟨w', r', .inr ⟨.inr z, c2, h2, ?_⟩⟩
        have c1 := cm h2
        rcases q with ⟨k', _⟩ | ⟨_, c3, e', z3⟩
        · have k' : X.env.scope.names.lookup y = some .local := k'
          rcases L.free _ (mem_of_lookup z) rfl with k2 | k2
          · rw [show X.env.scope.names.lookup y = some .cell from k2] at k'; cases k'
          · rw [show X.env.scope.names.lookup y = some .free from k2] at k'; cases k'
        · rw [c1] at e'
          cases e'
          exact cellK (I.freeC y c2 c1) z3
  · obtain ⟨w', z⟩ := I.cell y c (cm e)
    exact ⟨w', cellA (I.freeC y c (cm e)) z⟩
  · obtain ⟨w', o, ho, hd'⟩ := I.cell y c (cm e)
    exact un.free c o ho (I.freeC y c (cm e)) (by simp)
  · cases (show q ∈ ([] : List (Addr × Obj)) from hq)
  · rw [List.length_set]; exact I.len
/-- the key of one item -/
theorem key_call {A2 : Around} {params : Arguments} {body : Expr} {scope : Scope} {x : Str} {i k : Nat} {v : V} {u : Value} {f d : Addr} {pm ctv : Value} {tb : TE} {Q : VK} {E' : Value → Shared → Prop} (J : Inv X pins σ H s) (L : LamP X.env.scope scope x)
    (ef : s.heap.get? f = some (PySem.W.kla_obj "<lambda>" (X.env.qual ++ "<lambda>") params body scope (cloFrom X.env.cells scope.names []) pm d ctv)) (hc : H d = some (CodeO d (X.env.qual ++ "<lambda>")))
    (hf : A2.frames = X.A.frames) (hr : Room (k + 1) A2) (eb : bindArgs (PySem.W.kla_fn "<lambda>" (X.env.qual ++ "<lambda>") params body scope (cloFrom X.env.cells scope.names []) pm (.ref d) ctv) ⟨[u], []⟩ = pure [(x, u)])
    (hbody : ∀ (A : Around) (outer : List Env) (s : Shared) (H : Hp) (E : XK), Room k (A.deeper (lamEnv X scope s.heap.objs.size f d)) → PE (lamCx X A outer s H E scope f d) body tb)
    (hN : X.N[i]? = some x) (nd : X.N.Nodup) (r : RelV v u) (h : tb (σ.set i (some v)) H Q) : wpAny (model X.prog X.w) A2 (call (.ref f) [u]) (EP X pins σ Q) E' s := by
  have e0 : Env0 X.prog X.w X.K X.mg X.base A2 X.stack s H := { J.env0 with frames := hf.trans J.env0.frames }
  obtain ⟨⟨oc, vs, t, hoc, hdc, hvc⟩, _, _⟩ := J.hok d _ hc
  refine wpAny_call (codeAny_mono (show codeAny (model X.prog X.w) A2 (.call (.ref f) ⟨[u], []⟩) (CR (L2.CX X.prog X.w) X.stack X.prog X.w H s Q (fun _ _ _ => False)) s from ?_) fun rr z e => ?_)
  · refine PySem.W.kla_callFunE (by have := hr.dp; omega) ef rfl L.co L.gen rfl ⟨d, oc, vs, t, rfl, hoc, hdc, hvc⟩ ?_
    rw [eb]
    refine wpAny_pure (wpAny_newFunctionEnv (fun y hy => (L.own y hy).1) (fun y hy => by rw [List.mem_singleton.mp hy]; exact L.par) (fun h₁ hns hsb => ⟨J.nolimit.fresh _ hsb, ?_⟩) L.kind)
    show codeAny _ _ (.expr body (lamEnv X scope s.heap.objs.size f d)) _ _
    have up : ∀ b o, s.heap.get? b = some o → h₁.get? b = some o := fun b o e => hsb.extBut b o (Nat.ne_of_lt (Heap.lt_size e)) (Heap.get?_push_of_some _ e)
    have K2 : Inv (lamCx X A2 X.stack s H (fun _ _ _ => False) scope f d) [] (σ.set i (some v)) H { s with heap := h₁, toks := s.toks + ([(x, u)] : List (Str × Value)).length } := lam_start1 J L e0 hr.hd (Un.kept fun b o e => e) hns up hN nd r
    exact PySem.W.kla_codeExpr (wpAny_mono ((hbody A2 X.stack s H (fun _ _ _ => False) (hr.deeper _)).run [] _ _ H Q K2 h) (fun v z ⟨w, H2, J2, rv, q⟩ => ⟨w, H2, J2.os, J2.bare, J2.base, J2.hok, rv, q⟩) fun e z q => q)
  · cases rr with
    | error y =>
      obtain ⟨_, _, _, _, _, _, _, _, _, _, _, _, z⟩ := (show L2.CX X.prog X.w X.stack H s (fun _ _ _ => False) y z from e)
      exact z.elim
    | ok fl => cases fl <;> first | exact J.after e | exact e.elim
end
end SK
/-! SK: the sorting by keys, over the abstract heap -/
namespace SK
open PySem PySem.Spec PyProof.Rows L2 LamX LM
open Evl (Ex)
theorem get_freed (h : Heap) (p : Addr) : (h.update p fun o => { o with data := .freed }).get? p = none := by
  unfold Heap.get? Heap.update
  show (match (h.objs.modify p fun o => { o with data := .freed })[p]? with | some ⟨_, _, .freed, _⟩ => none | o => o) = none
  rw [Array.getElem?_modify]
  cases e : h.objs[p]? <;> simp
/-- a thing that stands there takes its place -/
theorem lay_old {X : Cx} {pins : List (Addr × Obj)} {σ : L2.St} {H : Hp} {s : Shared} {a : Addr} {o : HO} (I : Inv X pins σ H s) (F : FpOk X pins H a) (ob : ObjOk X.prog X.w (upd H a o) s.heap a o) : Inv X pins σ (upd H a o) s := by
  obtain ⟨n, h1, h2, h3, h4, h5⟩ := F
  have ne : ∀ {b : Addr} {u : HO}, H b = some u → b ≠ a := fun {b u} e z => by rw [z, n] at e; cases e
  refine I.call' (ch := [a]) rfl ⟨fun b u e _ _ _ => e, fun b u e _ _ _ => ⟨u.slots, e⟩, fun b u e z nx => (upd_ne (fun z => nx (by rw [z]; exact List.mem_cons_self))).trans z, fun b u e _ => ⟨u, e⟩, fun b xs e => (upd_ne (ne e)).trans e, fun b o' u e => (upd_ne (ne e)).trans e, fun b ps e => ⟨#[], by rw [Array.append_empty]; exact (upd_ne (ne e)).trans e⟩⟩ ?_ I.bare fun b hb => ?_
  · intro b u e
    by_cases hb : b = a
    · subst hb
      rw [upd_same] at e
      cases e
      exact ob
    · rw [upd_ne hb] at e
      exact (I.hok b u e).stay (fun _ _ _ z => z) (fun b' z => (upd_ne (ne z)).trans z) fun b' xs z => (upd_ne (ne z)).trans z
  · rw [List.mem_singleton.mp hb]
    exact ⟨h3, h1, h4, h5⟩
theorem dp_ex {K : PySem.W.Frag} {H H' : Hp} (e : Ex H H') {v : V} {d : PyData} (h : Dp K H v d) : Dp K H' v d :=
  Dp.rec (motive_1 := fun v d _ => Dp K H' v d) (motive_2 := fun vs ds _ => DpAll K H' vs ds) .non .bl .int .str (fun s _ a => .lst (B.Ext.l (B.exExt e) s) a) (fun s _ a => .tup (B.Ext.t (B.exExt e) s) a) .nil (fun _ _ a b => .cons a b) h
theorem dps_ex {K : PySem.W.Frag} {H H' : Hp} (e : Ex H H') : ∀ {vs : List V} {ds : List PyData}, DpAll K H vs ds → DpAll K H' vs ds
  | _, _, .nil => .nil
  | _, _, .cons a b => .cons (dp_ex e a) (dps_ex e b)
theorem dps_snoc {K : PySem.W.Frag} {H : Hp} {v : V} {d : PyData} (h : Dp K H v d) : ∀ {vs : List V} {ds : List PyData}, DpAll K H vs ds → DpAll K H (vs ++ [v]) (ds ++ [d])
  | _, _, .nil => .cons h .nil
  | _, _, .cons a b => .cons a (dps_snoc h b)
theorem vals_snoc {v : V} {u : Value} (h : RelV v u) : ∀ {vs : List V} {us : List Value}, Vals vs us → Vals (vs ++ [v]) (us ++ [u])
  | _, _, .nil => .cons h .nil
  | _, _, .cons a b => .cons a (vals_snoc h b)
theorem vals_get {vs : List V} {us : List Value} (h : Vals vs us) : ∀ {j : Nat} {u : Value}, us[j]? = some u → ∃ v, vs[j]? = some v ∧ RelV v u := by
  induction h with
  | nil => intro j u e; simp at e
  | cons a b ih =>
    intro j u e
    cases j with
    | zero => rw [List.getElem?_cons_zero] at e; cases e; exact ⟨_, rfl, a⟩
    | succ j => rw [List.getElem?_cons_succ] at e; exact ih e
theorem vals_len {vs : List V} {us : List Value} (h : Vals vs us) : vs.length = us.length := by
  induction h with
  | nil => rfl
  | cons a b ih => rw [List.length_cons, List.length_cons, ih]
theorem dps_reads {X : Cx} {pins : List (Addr × Obj)} {σ : L2.St} {H : Hp} {s : Shared} (I : Inv X pins σ H s) : ∀ {vs : List V} {us : List Value} {ds : List PyData}, Vals vs us → DpAll X.K H vs ds → PySem.W.EachIs (fun u d => ∃ as, Reads s.heap u d as) us ds
  | _, _, _, .nil, .nil => .nil
  | _, _, _, .cons r rs, .cons a b => .cons (Dp.reads I _ _ _ a r) (dps_reads I rs b)
theorem dps_len {K : PySem.W.Frag} {H : Hp} : ∀ {vs : List V} {ds : List PyData}, DpAll K H vs ds → vs.length = ds.length
  | _, _, .nil => rfl
  | _, _, .cons _ b => by rw [List.length_cons, List.length_cons, dps_len b]
theorem each_zip {vs : List V} {us : List Value} (r : Vals vs us) : ∀ {kz : List PyData}, kz.length = vs.length → PySem.W.EachIs (fun (u : Value) (p : V × PyData) => RelV p.1 u) us (vs.zip kz) := by
  induction r with
  | nil => intro kz _; exact .nil
  | cons a b ih =>
    intro kz h
    cases kz with
    | nil => simp at h
    | cons d ds => exact .cons a (ih (by simpa using h))
theorem each_vals {us : List Value} {ps : List (V × PyData)} (h : PySem.W.EachIs (fun (u : Value) (p : V × PyData) => RelV p.1 u) us ps) : Vals (ps.map (·.1)) us := by
  induction h with
  | nil => exact .nil
  | cons a b ih => exact .cons a ih
/-- in the order of their keys -/
def sortedBy (kz : List PyData) (vs : List V) : List V := ((vs.zip kz).mergeSort (PySem.W.dataLe false Prod.snd)).map (·.1)

theorem zip_snd : ∀ {vs : List V} {kz : List PyData}, kz.length = vs.length → (vs.zip kz).map Prod.snd = kz
  | [], [], _ => rfl
  | _ :: vs, _ :: kz, h => by
    show _ :: ((vs.zip kz).map Prod.snd) = _
    rw [zip_snd (by simpa using h)]
/-- what a lambda is -/
def LamO (f : Addr) (o : Obj) : HO := .ext fun h => h.get? f = some o
section
variable {X : Cx} {pins : List (Addr × Obj)} {σ : L2.St} {H : Hp} {s : Shared}
theorem key_tree {params : Arguments} {body : Expr} {scope : Scope} {x : Str} {i k : Nat} {f d a : Addr} {pm ctv : Value} {tb : TE} {vs : List V} {us : List Value} {kz : List PyData} {n : Nat} {P : PySem.Fin → Shared → Prop} {E' : Value → Shared → Prop} {J : Nat → Hp → Prop}
    (I : Inv X pins σ H s) (ha : s.heap.get? a = some (seqObj "list" us.toArray n)) (Fa : FpOk X pins H a) (L : LamP X.env.scope scope x)
    (ef : H f = some (LamO f (PySem.W.kla_obj "<lambda>" (X.env.qual ++ "<lambda>") params body scope (cloFrom X.env.cells scope.names []) pm d ctv))) (hc : H d = some (CodeO d (X.env.qual ++ "<lambda>")))
    (hr : Room (k + 2) X.A) (eb : ∀ u, bindArgs (PySem.W.kla_fn "<lambda>" (X.env.qual ++ "<lambda>") params body scope (cloFrom X.env.cells scope.names []) pm (.ref d) ctv) ⟨[u], []⟩ = pure [(x, u)])
    (hbody : ∀ (A : Around) (outer : List Env) (s : Shared) (H : Hp) (E : XK), Room k (A.deeper (lamEnv X scope s.heap.objs.size f d)) → PE (lamCx X A outer s H E scope f d) body tb)
    (hN : X.N[i]? = some x) (nd : X.N.Nodup) (rel : Vals vs us) (len : kz.length = vs.length) (hZ : vs.length ≤ sizeLine) (hal : PySem.W.AllAlike kz) (hsk : PySem.W.Sortable kz) (hu : ∀ d ∈ kz, d.depth ≤ 60)
    (j0 : J 0 H) (turn : ∀ j v d H1, vs[j]? = some v → kz[j]? = some d → J j H1 → tb (σ.set i (some v)) H1 fun w H2 => J (j + 1) H2 ∧ Dp X.K H2 w d ∧ Ex H1 H2)
    (fin : ∀ Hn s', J vs.length Hn → Hn a = none → Inv X pins σ (upd Hn a (.lst (sortedBy kz vs))) s' → P (.done (.ret .none)) s') : wpAny (model X.prog X.w) X.A.in1.in1 (ksk_tree a (.ref f) false) P E' s := by
  have ul : us.length = vs.length := (vals_len rel).symm
  have hz1 : us.toArray.size ≤ sizeLine := by rw [List.size_toArray, ul]; exact hZ
  unfold ksk_tree
  refine wpAny_bind (listItems_at ha rfl ?_)
  refine wpAny_bind (listUpdate_at ha rfl ?_ hz1 (Nat.zero_le _))
  have s1 := Heap.SameBut.update s.heap a (Obj.mapSeq fun _ => #[])
  have ha1 := get?_update_seq ha (fun _ => #[])
  generalize hc1 : (if ((fun (_ : Array Value) => (#[] : Array Value)) us.toArray).size == us.toArray.size then n else n + 1) = c1 at ha1
  obtain ⟨Fn, F1, F2, F3, F4, F5⟩ := id Fa
  have I1 : Inv X pins σ H { s with heap := s.heap.update a (Obj.mapSeq fun _ => #[]) } := I.turned (fun b o nb e => (s1.2 b nb).trans e) Fn F1 F3 F4 F5
  refine wpAny_bind (seqEpoch_at ha1 rfl ?_)
  have la : a < s.heap.objs.size := Heap.lt_size ha
  refine wpAny_bind (wpAny_newTuple ?_ (by show us.toArray.toList.length ≤ _; rw [Array.length_toList]; exact hz1))
  have I2 := (I1.pins_of (pins' := pins ++ [(a, seqObj "list" #[] c1)]) fun p hp => by
    rcases List.mem_append.mp hp with hp | hp
    · exact I1.pin p (List.mem_append_right _ hp)
    · rw [List.mem_singleton.mp hp]
      exact ⟨ha1, Fn, F1, F2, fun v z => by cases z⟩)
  have sz1 : (s.heap.update a (Obj.mapSeq fun _ => #[])).objs.size = s.heap.objs.size := s1.1
  generalize hh2 : (s.heap.update a (Obj.mapSeq fun _ => #[])) = h1 at *
  let h2 := h1.push { cls := Value.type "tuple", data := Data.seq us.toArray.toList.toArray }
  have I3 : Inv X (pins ++ [(a, seqObj "list" #[] c1)]) σ H { s with heap := h2 } := I2.kept fun b o e => Heap.get?_push_of_some _ e
  refine wpAny_bind (wpAny_newList ?_ (Nat.zero_le _))
  let kS := h2.objs.size
  have I4 : Inv X (pins ++ [(a, seqObj "list" #[] c1)]) σ H { s with heap := h2.push (seqObj "list" #[] 0) } := I3.kept fun b o e => Heap.get?_push_of_some _ e
  have Fk : FpOk X (pins ++ [(a, seqObj "list" #[] c1)]) H kS := I3.fpOk (Nat.le_refl _) I3.fresh
  obtain ⟨Kn, K1, K2, K3, K4, K5⟩ := id Fk
  have hka : kS ≠ a := fun z => K5 (a, seqObj "list" #[] c1) (by simp) z.symm
  refine wpAny_holding ?_
  unfold ksk_rest
  refine wpAny_bind (wpAny_rule ?_)
  rw [List.forIn_toArray]
  refine wpAny_bind (ksk_fold (fun j s' => ∃ Hj kA e ws, Inv X (pins ++ [(a, seqObj "list" #[] c1)]) σ Hj s' ∧ s'.heap.get? kS = some (seqObj "list" kA e) ∧ Hj kS = none ∧ J j Hj ∧ Ex H Hj ∧ Vals ws kA.toList ∧ DpAll X.K Hj ws (kz.take j)) us 0 _ ?_ ?_ ?_)
  · exact ⟨H, #[], 0, [], I4, Heap.get?_push_size _ rfl, Kn, j0, fun _ _ e => e, .nil, by rw [List.take_zero]; exact .nil⟩
  · rintro j u s' hj ⟨Hj, kA, e, ws, J1, gk, nk, jj, ex, rw', dp⟩
    rw [Nat.zero_add] at jj dp ⊢
    obtain ⟨v, hv, rv⟩ := vals_get rel hj
    have hlt : j < vs.length := (List.getElem?_eq_some_iff.mp hv).1
    obtain ⟨dk, hd⟩ : ∃ dk, kz[j]? = some dk := ⟨_, List.getElem?_eq_getElem (by omega)⟩
    have J2 := (J1.pins_of (pins' := (pins ++ [(a, seqObj "list" #[] c1)]) ++ [(kS, seqObj "list" kA e)]) fun p hp => by
      rcases List.mem_append.mp hp with hp | hp
      · exact J1.pin p (List.mem_append_right _ hp)
      · rw [List.mem_singleton.mp hp]
        exact ⟨gk, nk, K1, K2, fun v z => by cases z⟩)
    have wl : ws.length = j := by
      have := dps_len dp
      rw [List.length_take] at this
      omega
    have hkz : kA.size = j := by
      have h0 : ws.length = kA.size := (vals_len rw').trans Array.length_toList
      rw [← h0, wl]
    refine wpAny_bind (wpAny_attempt (wpAny_mono (key_call (tb := tb) (k := k) J2 L ((J2.hok f _ (ex _ _ ef)).1) (ex _ _ hc) rfl ⟨hr.hd, by have := hr.dp; show X.A.depth + _ + 5 < _; omega, by have := hr.un; show X.A.units + 1 + 1 + _ + _ < _; omega⟩ (eb u) hbody hN nd rv (turn j v dk Hj hv hd jj)) (fun u2 s2 he => ?_) fun e2 s2 he => he))
    obtain ⟨w, H2, J3, r3, jn, dpw, ex3⟩ := he
    have pk := J3.pin (kS, seqObj "list" kA e) (by simp)
    have J4 := J3.unpinned
    refine wpAny_bind (listUpdate_at pk.1 rfl ?_ (by omega) (by show (kA.push u2).size ≤ _; rw [Array.size_push]; omega))
    have sb := Heap.SameBut.update s2.heap kS (Obj.mapSeq fun x => x.push u2)
    refine wpAny_pure ⟨rfl, H2, kA.push u2, _, ws ++ [w], J4.turned (fun b o nb e => (sb.2 b nb).trans e) pk.2.1 K1 K3 K4 K5, get?_update_seq pk.1 fun x => x.push u2, pk.2.1, jn, fun b o z => ex3 _ _ (ex _ _ z), ?_, ?_⟩
    · rw [Array.toList_push]; exact vals_snoc r3 rw'
    · rw [List.take_add_one, hd]
      exact dps_snoc dpw (dps_ex ex3 dp)
  · rintro s' ⟨Hj, kA, e, ws, J1, gk, nk, jj, ex, rw', dp⟩
    rw [Nat.zero_add, ul] at jj dp
    rw [List.take_of_length_le (by omega)] at dp
    have pa := J1.pin (a, seqObj "list" #[] c1) (by simp)
    have hsz : kA.size = us.length := by
      have h0 : ws.length = kA.size := (vals_len rw').trans Array.length_toList
      have h2 := dps_len dp
      rw [← h0, h2, len, ul]
    have sf := Heap.SameBut.update s'.heap kS (fun o => { o with data := .freed })
    have J5 : Inv X (pins ++ [(a, seqObj "list" #[] c1)]) σ Hj { s' with heap := s'.heap.update kS fun o => { o with data := .freed } } := J1.turned (fun b o nb e => (sf.2 b nb).trans e) nk K1 K3 K4 K5
    refine wpAny_bind (listItems_at gk rfl ?_)
    refine PySem.W.keyH_end (h₁ := s'.heap.update kS fun o => { o with data := .freed }) (fun b o nb e => ?_) (get_freed _ _) gk pa.1 hka (PySem.W.SortsAt.data (dps_reads J1 rw' dp) hal hsk fun d hd => ?_) hsz (by omega) fun h' tk c kp na => ?_
    · by_cases hb : b = kS
      · subst hb
        rw [get_freed] at e
        cases e
      · exact (sf.2 b hb).symm.trans e
    · have := hu d hd
      have := hr.un
      show X.A.units + 1 + 1 + d.depth < cLine
      omega
    have J6 : Inv X pins σ Hj { s' with heap := h', toks := tk } := (J5.unpinned).turned (fun b o nb e => kp b o nb e) pa.2.1 F1 F3 F4 F5
    have ko := PySem.W.keyedOut_each (rev := false) (k := (Prod.snd : V × PyData → PyData)) (bs := vs.zip kz) (vs := us) (out := PySem.W.sortVals (PySem.W.dataKind s'.heap kz) false kA.toList us) (R := fun u p => RelV p.1 u) (by rw [zip_snd len]; exact ⟨s'.heap, kA.toList, hal, rfl, dps_reads J1 rw' dp⟩) (each_zip rel len)
    refine fin Hj _ jj pa.2.1 (lay_old J6 ⟨pa.2.1, F1, F2, F3, F4, F5⟩ (show ObjOk X.prog X.w _ _ _ (.lst (sortedBy kz vs)) from ⟨?_, _, c, each_vals ko, na⟩))
    show (sortedBy kz vs).length ≤ _
    unfold sortedBy
    rw [List.length_map, List.length_mergeSort, List.length_zip]
    omega
end
end SK
/-! SK: sorted(list, key=lambda x: ..) as an expression -/
namespace SK
open PySem PySem.Spec PyProof.Rows L2 LamX LM
open Evl (Ex)
section
variable {X : Cx} {pins : List (Addr × Obj)} {σ : L2.St} {H : Hp} {s : Shared}
theorem lam_madeF {c P : Addr} {params : Arguments} {body : Expr} {scope : Scope} {pos : Pos} {E : Value → Shared → Prop} {Q : Value → Shared → Prop} (J : Inv X pins σ H s) (B : TabB X.base X.mg c P) (ec : X.env.code = .ref c) (T : TabS H P (X.env.qual ++ "<lambda>"))
    (ed : defaultsOf params X.env = ([], [])) (fr : ∀ y ∈ scope.names, y.2 = .free → ∃ c, X.env.cells.lookup y.1 = some c)
    (k : ∀ (f d : Addr) (pm ct : Value) (H1 : Hp) (z : Shared), Inv X pins σ H1 z → LamStep P (X.env.qual ++ "<lambda>") H H1 → z.heap.get? f = some (PySem.W.kla_obj "<lambda>" (X.env.qual ++ "<lambda>") params body scope (cloFrom X.env.cells scope.names []) pm d ct) →
      H1 f = none → FpOk X pins H1 f → H1 d = some (CodeO d (X.env.qual ++ "<lambda>")) → Q (.ref f) z) : wpAny (model X.prog X.w) X.A (eval (.Lambda params body scope pos) X.env) Q E s := by
  obtain ⟨ps, eP, ok, all⟩ := T
  have gP : s.heap.get? P = some { cls := .none, data := .fields ps } := J.hok P _ eP
  have bt : s.heap.BuiltinsAt X.mg P := B.bm.keeps J.bk
  refine PySem.W.kla_eval ed ?_
  cases ecd : codeAmong pos ps.toList with
  | some v =>
    obtain ⟨d, rfl, ho⟩ := all pos v ecd
    refine PySem.W.kla_makeFunctionHit (mg := X.mg) (c := c) (P := P) (ps := ps) (closure_ok fr) J.ok.glob (J.mod.glob.keeps J.bk) ec (B.code.keeps J.bk) gP ok ecd bt fun ct h2 tk hx sz => ?_
    exact k h2.objs.size d _ ct H _ (J.kept fun b o e => Heap.get?_push_of_some _ (hx b o e)) (.inl rfl) (Heap.get?_push_size _ rfl) (J.hok.fresh sz) (J.fpOk sz (J.hok.fresh sz)) ho
  | none =>
    refine PySem.W.kla_makeFunction (mg := X.mg) (c := c) (P := P) (ps := ps) (closure_ok fr) J.ok.glob (J.mod.glob.keeps J.bk) ec (B.code.keeps J.bk) gP ok ecd B.gP bt fun d ct h2 tk hx ge lt rec tb => ?_
    obtain ⟨d', oc, vs, t, ed', hoc, hd, hv⟩ := rec
    cases ed'
    have nd : H d = none := J.hok.fresh ge
    have sz : s.heap.objs.size ≤ h2.objs.size := Nat.le_trans ge (Nat.le_of_lt lt)
    have J2 := inv_table (t' := tk) (more := #[rawInt pos.line, rawInt pos.col, .ref d]) (h' := h2.push (PySem.W.kla_obj "<lambda>" (X.env.qual ++ "<lambda>") params body scope (cloFrom X.env.cells scope.names []) ((X.mg "__name__").getD .none) d ct)) J eP
      (fun b o hb e => Heap.get?_push_of_some _ (hx b o hb e)) (Heap.get?_push_of_some _ tb) ge ⟨oc, vs, t, Heap.get?_push_of_some _ hoc, hd, hv⟩
    have n1 : h2.objs.size ≠ d := Nat.ne_of_gt lt
    have n2 : h2.objs.size ≠ P := fun z => by
      have := Heap.lt_size gP
      rw [← z] at this
      exact absurd this (Nat.not_lt.mpr sz)
    have nf : (upd (upd H P (.tbl (ps ++ #[rawInt pos.line, rawInt pos.col, .ref d]))) d (CodeO d (X.env.qual ++ "<lambda>"))) h2.objs.size = none := by rw [upd_ne n1, upd_ne n2]; exact J.hok.fresh sz
    exact k h2.objs.size d _ ct _ _ J2 (.inr ⟨ps, pos, d, eP, nd, rfl⟩) (Heap.get?_push_size _ rfl) nf (J.fpOk sz nf) upd_same
end
/-- what is asked of the keys of the items ws -/
def AskK (K : PySem.W.Frag) (P : Addr) (q : Str) (i : Nat) (tb : TE) (σ : L2.St) (ws : List V) (H1 : Hp) (Q : VK) : Prop := TabS H1 P q ∧ ∀ (H2 : Hp) (f : Addr) (o : Obj), LamStep P q H1 H2 → H2 f = none →
  ∃ (kz : List PyData) (J : Nat → Hp → Prop), kz.length = ws.length ∧ PySem.W.AllAlike kz ∧ PySem.W.Sortable kz ∧ (∀ d ∈ kz, d.depth ≤ 60) ∧ J 0 (upd H2 f (LamO f o)) ∧
    (∀ j v d H, ws[j]? = some v → kz[j]? = some d → J j H → tb (σ.set i (some v)) H fun w H' => J (j + 1) H' ∧ Dp K H' w d ∧ Ex H H') ∧ ∀ H3, J ws.length H3 → ∀ p, H3 p = none → Q (.ref p) (upd H3 p (.lst (sortedBy kz ws)))
/-- sorted(xs, key=lambda x: tb), x at slot i, xs a list -/
def tSortK (K : PySem.W.Frag) (P : Addr) (q : Str) (i : Nat) (ta : TA) (tb : TE) : TE := fun σ H Q => ta σ H fun vs H1 => ∃ (b : Addr) (ws : List V), vs = [.ref b] ∧ SqL K H1 b ws ∧ AskK K P q i tb σ ws H1 Q
theorem lamstep_ex {P : Addr} {q : Str} {H H1 : Hp} (st : LamStep P q H H1) {b : Addr} {o : HO} (h : H b = some o) (ht : ∀ ps, o ≠ .tbl ps) : H1 b = some o := by
  rcases st with rfl | ⟨ps, pos, c, e, nc, rfl⟩
  · exact h
  · have h1 : b ≠ c := fun z => by rw [z, nc] at h; cases h
    have h2 : b ≠ P := fun z => by rw [z, e] at h; cases h; exact ht _ rfl
    rw [upd_ne h1, upd_ne h2]
    exact h
theorem lamstep_l {K : PySem.W.Frag} {P : Addr} {q : Str} {H H1 : Hp} (st : LamStep P q H H1) {b : Addr} {xs : List V} (h : SqL K H b xs) : SqL K H1 b xs := by
  rcases h with h | h
  · left
    rcases h with h | ⟨ob, h⟩
    · exact .inl (lamstep_ex st h fun _ z => by cases z)
    · exact .inr ⟨ob, lamstep_ex st h fun _ z => by cases z⟩
  · exact .inr h
section
variable {X : Cx} {pins : List (Addr × Obj)} {σ : L2.St} {s : Shared}
/-- the list's sort, once the list to be sorted stands -/
theorem sort_run {body : Expr} {params : Arguments} {scope : Scope} {tb : TE} {x : Str} {i k : Nat} {P f d a n : Nat} {pm ct : Value} {H1 H2 : Hp} {ws : List V} {us : List Value} {Q : VK} {E' : Value → Shared → Prop} {P' : PySem.Fin → Shared → Prop} (hr : Room (k + 2) X.A) (L : LamP X.env.scope scope x)
    (eb : ∀ (q : Str) (cl : List (Str × Addr)) (pm cv ctv u : Value), bindArgs (PySem.W.kla_fn "<lambda>" q params body scope cl pm cv ctv) ⟨[u], []⟩ = pure [(x, u)])
    (hbody : ∀ (A : Around) (outer : List Env) (s : Shared) (H : Hp) (E : XK) (f d : Addr), Room k (A.deeper (lamEnv X scope s.heap.objs.size f d)) → PE (lamCx X A outer s H E scope f d) body tb) (hN : X.N[i]? = some x) (nd : X.N.Nodup)
    (I : Inv X pins σ (upd H2 f (LamO f (PySem.W.kla_obj "<lambda>" (X.env.qual ++ "<lambda>") params body scope (cloFrom X.env.cells scope.names []) pm d ct))) s) (ha : s.heap.get? a = some (seqObj "list" us.toArray n)) (Fa : FpOk X pins (upd H2 f (LamO f (PySem.W.kla_obj "<lambda>" (X.env.qual ++ "<lambda>") params body scope (cloFrom X.env.cells scope.names []) pm d ct))) a)
    (rel : Vals ws us) (hZ : ws.length ≤ sizeLine) (st : LamStep P (X.env.qual ++ "<lambda>") H1 H2) (nf : H2 f = none) (hc : H2 d = some (CodeO d (X.env.qual ++ "<lambda>"))) (h : AskK X.K P (X.env.qual ++ "<lambda>") i tb σ ws H1 Q)
    (fin : ∀ H' s', Inv X pins σ H' s' → Q (.ref a) H' → P' (.done (.ret .none)) s') : wpAny (model X.prog X.w) X.A.in1.in1 (Builtin.«list.sort» ⟨[.ref a], [("key", .ref f)]⟩) P' E' s := by
  obtain ⟨kz, J, len, hal, hsk, hu, j0, turn, done⟩ := h.2 H2 f (PySem.W.kla_obj "<lambda>" (X.env.qual ++ "<lambda>") params body scope (cloFrom X.env.cells scope.names []) pm d ct) st nf
  have fd : f ≠ d := fun z => by rw [z, hc] at nf; cases nf
  rw [show (Builtin.«list.sort» ⟨[.ref a], [("key", .ref f)]⟩) = ksk_tree a (.ref f) false from ksk_t1 f a]
  exact key_tree (E' := E') I ha Fa L upd_same ((upd_ne fd.symm).trans hc) hr (fun u => eb _ _ _ _ _ u) (fun A outer s H E r => hbody A outer s H E f d r) hN nd rel len hZ hal hsk hu j0 turn fun Hn s' jn na J6 => fin _ s' J6 (done Hn jn a na)
end
theorem pe_sortK {X : Cx} {e body : Expr} {params : Arguments} {scope : Scope} {lpos kpos p pos : Pos} {ta : TA} {tb : TE} {x : Str} {i k : Nat} {c P : Addr} (hg : Gl X "sorted") (hm : X.mg "sorted" = none) (he : PA X [e] ta) (TB0 : TabB X.base X.mg c P) (ec : X.env.code = .ref c) (hr : Room (k + 2) X.A) (L : LamP X.env.scope scope x)
    (ed : defaultsOf params X.env = ([], [])) (eb : ∀ (q : Str) (cl : List (Str × Addr)) (pm cv ctv u : Value), bindArgs (PySem.W.kla_fn "<lambda>" q params body scope cl pm cv ctv) ⟨[u], []⟩ = pure [(x, u)])
    (hbody : ∀ (A : Around) (outer : List Env) (s : Shared) (H : Hp) (E : XK) (f d : Addr), Room k (A.deeper (lamEnv X scope s.heap.objs.size f d)) → PE (lamCx X A outer s H E scope f d) body tb) (hN : X.N[i]? = some x) (nd : X.N.Nodup)
    (hst : backTo pos (starEach [e] X.env) = (false, eval e X.env) :: backTo pos (starEach [] X.env) := by rfl) (hpl : ((backTo pos (starEach [e] X.env)).any (·.1)) = false := by rfl) : PE X (.Call (.Name "sorted" p) [e] [⟨some "key", .Lambda params body scope lpos, kpos⟩] pos) (tSortK X.K P (X.env.qual ++ "<lambda>") i ta tb) := by
  refine ⟨fun pins s σ H Q I h => wpAny_Call_Name_kw (ld_blt (u := .builtin "sorted") I hg hm (by decide +kernel) (callWith_kw (thn (he.run pos pins s σ H _ I h) fun us s1 ⟨vs, H1, I1, r1, b, ws, e1, hl, ask⟩ => ?_) hst hpl (by rfl) (by rfl)) (by decide) (by decide))⟩
  subst e1
  obtain rfl := Vals.ref1 r1
  refine wpAny_evalAll_cons (wpAny_bind (lam_madeF I1 TB0 ec ask.1 ed (L.has I1.ok) fun f d pm ct H2 z J st hf nf F hc => wpAny_bind (wpAny_standAt (wpAny_pure (wpAny_evalAll_nil ?_)))))
  have J2 := lay_old J F (o := LamO f (PySem.W.kla_obj "<lambda>" (X.env.qual ++ "<lambda>") params body scope (cloFrom X.env.cells scope.names []) pm d ct)) ⟨hf, ⟨_, hf⟩, fun h1 h2 a b => b _ a⟩
  have hl2 : SqL X.K (upd H2 f (LamO f (PySem.W.kla_obj "<lambda>" (X.env.qual ++ "<lambda>") params body scope (cloFrom X.env.cells scope.names []) pm d ct))) b ws := B.Ext.l (B.exExt fun a o e => (upd_ne (fun z => by rw [z, nf] at e; cases e)).trans e) (lamstep_l st hl)
  obtain ⟨its, rv, ⟨o, n, ho, hcl, _, hda⟩, hz⟩ := J2.list hl2
  have len : its.length = ws.length := (vals_len rv).symm
  show wpAny _ _ (call (.builtin "sorted") [.ref b] [("key", .ref f)]) _ _ _
  refine PySem.W.sorted_of_sort ⟨o, ho, hcl, n, hda⟩ (by rw [len]; exact hz) (ksk_s1 _ _) (fun x => ksk_l1 _ _) fun E' => ?_
  have J3 : Inv X pins σ _ { z with heap := PySem.W.copyHeap z.heap its } := J2.kept fun b o e => PySem.W.copyHeap_old e
  have nn := J2.hok.fresh (Nat.le_succ z.heap.objs.size)
  exact sort_run hr L eb hbody hN nd J3 (PySem.W.copyHeap_at _ _) (J2.fpOk (Nat.le_succ _) nn) rv hz st nf hc ask fun H' s' J4 q => ⟨rfl, .ref (z.heap.objs.size + 1), H', J4, rfl, q⟩
end SK
/-! B: sorted by a lambda's keys, typed -/
namespace B
open PySem L2 LamX LM SK
open PySem.W (Tup T3 T4 Datum DatumOrd)
open Evl (Ex)
section
variable {α β : Type} [Py α] [DecidableEq β] [Datum β] [Py β] [PyD β] {K : Fg} {W : Wd} {σ : SS} {te tb : TE} {P : Addr} {q : Str} {i : Nat}
theorem reps_pairs {H : Hp} {vs : List V} {xs : List α} (r : Reps K H vs xs) : ∀ p ∈ vs.zip xs, rep K H p.1 p.2 := by
  induction r with
  | nil => intro p hp; cases hp
  | cons a b ih =>
    intro p hp
    rcases List.mem_cons.mp (show p ∈ _ :: _ from hp) with rfl | hp
    · exact a
    · exact ih p hp
theorem pairs_reps {H : Hp} : ∀ {ps : List (V × α)}, (∀ p ∈ ps, rep K H p.1 p.2) → Reps K H (ps.map (·.1)) (ps.map (·.2))
  | [], _ => .nil
  | p :: ps, h => .cons (h p List.mem_cons_self) (pairs_reps fun x hx => h x (List.mem_cons_of_mem _ hx))
theorem sortedBy_reps {H : Hp} {vs : List V} {xs : List α} {g : α → PyData} (r : Reps K H vs xs) : Reps K H (sortedBy (xs.map g) vs) (xs.mergeSort (PySem.W.dataLe false g)) := by
  have h1 : vs.zip (xs.map g) = (vs.zip xs).map fun p => (p.1, g p.2) := by
    rw [List.zip_map_right]; rfl
  have h2 : xs = (vs.zip xs).map (·.2) := by rw [List.map_snd_zip]; rw [r.len]; exact Nat.le_refl _
  have e1 : (vs.zip (xs.map g)).mergeSort (PySem.W.dataLe false Prod.snd) = ((vs.zip xs).mergeSort (PySem.W.dataLe false fun p => g p.2)).map fun p => (p.1, g p.2) := by
    rw [h1]
    exact (PySem.W.sort_maps (fun p : V × α => (p.1, g p.2)) fun _ _ _ _ => rfl).symm
  have e2 : xs.mergeSort (PySem.W.dataLe false g) = ((vs.zip xs).mergeSort (PySem.W.dataLe false fun p => g p.2)).map (·.2) := by
    refine (congrArg (fun l => l.mergeSort (PySem.W.dataLe false g)) h2).trans ?_
    exact (PySem.W.sort_maps (fun p : V × α => p.2) fun _ _ _ _ => rfl).symm
  unfold sortedBy
  rw [e1, e2, List.map_map]
  exact pairs_reps fun p hp => reps_pairs r p ((List.mergeSort_perm _ _).mem_iff.mp hp)
/-- sorted(xs, key=lambda x: ..) -/
theorem en_sortK {xs : List α} {f : α → β} (h : EvR (lamE P q) K te σ W xs) (hk : ∀ x v W', x ∈ xs → Stp (lamE P q) W W' → rep K W'.B v x → EvR pur K tb (σ.set i (some v)) W' (f x))
    (hal : ∀ x ∈ xs, ∀ y ∈ xs, PySem.W.alike (Datum.toD (f x)) (Datum.toD (f y)) = true) (hsk : PySem.W.Sortable (xs.map fun x => Datum.toD (f x))) (hd : ∀ x ∈ xs, (Datum.toD (f x)).depth ≤ 60) :
    EvN (lamE P q) K (tSortK K P q i (tCons te tNil) tb) σ W (xs.mergeSort (PySem.W.dataLe false fun x => Datum.toD (f x))) := fun W1 g1 Q k => h W1 g1 _ fun v W2 g2 r => by
  obtain ⟨a, vs, rfl, hb, rs⟩ := r
  have t2 : TabAt W2 P q := g2.i
  refine ⟨a, vs, rfl, .inl (W2.sub.rd (.inl hb)), t2.ts, fun H2 fa o st nf => ?_⟩
  obtain ⟨W3, rfl, m3, t3⟩ := t2.step st
  let W4 := W3.add fa (LamO fa o)
  have g4 : Grow W3 W4 := W3.grow_add nf
  have m24 : Md [P] W2 W4 := m3.trans (Grow.s g4)
  refine ⟨xs.map fun x => Datum.toD (f x), fun _ H => ∃ W', W'.H = H ∧ Grow W4 W', by rw [List.length_map, rs.len], ?_, hsk, ?_, ⟨W4, rfl, .refl _ _⟩, ?_, ?_⟩
  · intro d hd d' hd'
    obtain ⟨x, hx, rfl⟩ := List.mem_map.mp hd
    obtain ⟨y, hy, rfl⟩ := List.mem_map.mp hd'
    exact hal x hx y hy
  · intro d hd'
    obtain ⟨x, hx, rfl⟩ := List.mem_map.mp hd'
    exact hd x hx
  · rintro j v d H hv hdj ⟨W', rfl, g'⟩
    obtain ⟨x, hx, rx⟩ := rs.get hv
    rw [List.getElem?_map, hx] at hdj
    cases hdj
    have s4 : Stp (lamE P q) W W' := ⟨(g1.md.trans g2.md).trans (m24.trans (Grow.s g')), (t3.gr g4).gr g'⟩
    have r4 : rep K W'.B v x := rep_g (m24.trans (Grow.s g')) rx
    exact hk x v W' (List.mem_of_getElem? hx) s4 r4 W' (Stp.start trivial) _ fun u W5 g5 r5 => ⟨⟨W5, rfl, g'.trans g5.pure⟩, PyD.dp (rep_h r5), g5.pure.h⟩
  · rintro H3 ⟨W', rfl, g'⟩ p hp
    have m := m24.trans (Grow.s (S := [P]) g')
    have rs' : Reps K W'.B vs xs := rs.mono (exExt m.b)
    refine k p (sortedBy _ vs) (W'.put p _ (W'.free hp)) ⟨g2.md.trans (m.trans (Grow.s (W'.grow_put hp))), ((t3.gr g4).gr g').gr (W'.grow_put hp)⟩ ?_ (W'.free hp) upd_same (sortedBy_reps rs')
    cases e : W1.H p with
    | none => rfl
    | some o => exact absurd hp ((g2.md.trans m).d p (by rw [e]; exact fun z => by cases z))
theorem ev_sortK {xs : List α} {f : α → β} (h : EvR (lamE P q) K te σ W xs) (hk : ∀ x v W', x ∈ xs → Stp (lamE P q) W W' → rep K W'.B v x → EvR pur K tb (σ.set i (some v)) W' (f x))
    (hal : ∀ x ∈ xs, ∀ y ∈ xs, PySem.W.alike (Datum.toD (f x)) (Datum.toD (f y)) = true) (hsk : PySem.W.Sortable (xs.map fun x => Datum.toD (f x))) (hd : ∀ x ∈ xs, (Datum.toD (f x)).depth ≤ 60) :
    EvR (lamE P q) K (tSortK K P q i (tCons te tNil) tb) σ W (xs.mergeSort (PySem.W.dataLe false fun x => Datum.toD (f x))) := (en_sortK h hk hal hsk hd).toR
/-- keys that are numbers -/
theorem ev_sortKI {xs : List α} {f : α → Int} (h : EvR (lamE P q) K te σ W xs) (hk : ∀ x v W', x ∈ xs → Stp (lamE P q) W W' → rep K W'.B v x → EvR pur K tb (σ.set i (some v)) W' (f x)) :
    EvR (lamE P q) K (tSortK K P q i (tCons te tNil) tb) σ W (xs.mergeSort fun a b => decide (f a ≤ f b)) := by
  have := ev_sortK (f := f) h hk (fun _ _ _ _ => rfl) (.inr fun d hd => by
    obtain ⟨x, _, rfl⟩ := List.mem_map.mp hd
    exact ⟨fun z => (by cases z), fun xs z => (by cases z)⟩) (fun _ _ => Nat.zero_le _)
  rw [show (PySem.W.dataLe false fun x => Datum.toD (f x)) = fun a b => decide (f a ≤ f b) from PySem.W.dataLe_int f] at this
  exact this
end
end B
/-! B: dict(pairs), list(d.values()), dict(d): for laws without jars (out of Jv, Dp) -/
namespace B
open PySem L2 PyProof.Rows
open Evl (Ex)
theorem was_none {S : List Addr} {W W' : Wd} {p : Addr} (g : Md S W W') (f : W'.H p = none) : W.H p = none := by
  cases q : W.H p with
  | none => rfl
  | some o => exact absurd f (g.d p (by rw [q]; exact fun z => by cases z))
/-- list(d.values()) -/
def rListV : List V → Hp → VK → Prop := fun vs H Q => ∃ (v a : Addr) (kvs : List (Key × V)) (is : List Int), vs = [V.ref v] ∧ H v = some (viewHO v a) ∧ H a = some (.dK kvs) ∧ kvs.map (·.2) = is.map V.int ∧ ∀ p, H p = none → Q (.ref p) (upd H p (.lst (is.map V.int)))
theorem cr_listV {X : Cx} (hc : X.calm = true) : CallR X (.type "list") rListV := by
  intro pins s σ H xs us Q I r h
  obtain ⟨v, a, kvs, is, rfl, hv, ha, hi, q⟩ := h
  obtain rfl := Vals.ref1 r
  obtain ⟨vs, ep, e, dat, hl, hz, hval⟩ := view_at I hv ha hi
  have hz2 : vs.length ≤ sizeLine := by
    rw [hl]
    have := congrArg List.length hi
    rw [List.length_map, List.length_map] at this
    rw [← this]; exact hz
  refine PySem.W.kdl_call (PySem.W.kdl_values (prog := X.prog) (w := X.w) (knd := mixKind X.prog X.w) (d := a) (r := v) (kvs := vs) (ep := ep)) (I.ok.hd hc) ⟨⟨_, e, rfl, rfl⟩, dat⟩ hz2 fun h' tk acc c hk hS hacc => ?_
  have hal : acc.toList.length = is.length := by rw [Array.length_toList, hacc.1, hl]
  have hI : IntsAre acc.toList is := ints_each hal fun j u e => hval j u (hacc.2 j u (by rw [← Array.getElem?_toList]; exact e))
  have hlen : (is.map V.int).length ≤ sizeLine := by rw [List.length_map, ← hl]; exact hz2
  exact ⟨.ref s.heap.objs.size, _, I.laid (t' := tk) hk (Nat.le_refl _) (show ObjOk X.prog X.w _ _ _ (.lst (is.map V.int)) from ⟨hlen, acc.toList, c, vals_of_ints hI, by rw [Array.toArray_toList]; exact hS⟩), rfl, q _ (I.hok.fresh (Nat.le_refl _))⟩
abbrev rDictP (K : Fg) : List V → Hp → VK → Prop := fun xs H Q => ∃ (a : Addr) (ps : List Addr) (kvs : List (Key × V)), xs = [.ref a] ∧ SqL K H a (ps.map V.ref) ∧ Paired (fun p kv => SqT K H p [kV kv.1, kv.2]) ps kvs ∧ ∀ p, H p = none → Q (.ref p) (upd H p (.dK (mergeK [] kvs)))
section
variable {κ α : Type} [DecidableEq κ] [PyKV κ] [Py α] {K : Fg} {W : Wd} {σ : SS} {ε : Ef} {te : TE} {kv : List (κ × α)} {d : Addr}
theorem kreps_fill {H : Hp} {kvs : List (Key × V)} {xs : List (κ × α)} (r : KReps K H kvs xs) : KReps K H (mergeK [] kvs) (kfill xs) := by
  have go : ∀ {kvs : List (Key × V)} {xs : List (κ × α)}, KReps K H kvs xs → ∀ (a : List (Key × V)) (b : List (κ × α)), KReps K H a b → KReps K H (mergeK a kvs) (xs.foldl (fun kv e => kput kv e.1 e.2) b) := by
    intro kvs xs r
    induction r with
    | nil => exact fun a b h => h
    | @cons p q _ _ e _ ih =>
      intro a b h
      have : KReps K H (putK a p.1 p.2) (kput b q.1 q.2) := by rw [e.1]; exact h.put q.1 e.2
      exact ih _ _ this
  exact go r [] [] .nil
/-- dict(pairs) -/
theorem em_dictP {xs : List (κ × α)} (h : EvR ε K te σ W xs) : EvM ε K (tCB (rDictP K) (tCons te tNil)) σ W (kfill xs) := fun W1 g1 Q k => h W1 g1 _ fun v W2 g2 ⟨a, vs, e, s, r⟩ => by
  have : ∀ {vs : List V} {xs : List (κ × α)}, Reps K W2.B vs xs → ∃ (ps : List Addr) (kvs : List (Key × V)), vs = ps.map V.ref ∧ Paired (fun p (kv : Key × V) => SqT K W2.H p [kV kv.1, kv.2]) ps kvs ∧ KReps K W2.B kvs xs := by
    intro vs xs r
    induction r with
    | nil => exact ⟨[], [], rfl, .nil, .nil⟩
    | @cons v x _ _ h _ ih =>
      obtain ⟨b, y, z, e1, e2, e3, e4⟩ := h
      obtain ⟨ps, kvs, f1, f2, f3⟩ := ih
      have ey : y = kV (PyKey.key x.1) := PyKV.keyv e3
      exact ⟨b :: ps, (PyKey.key x.1, z) :: kvs, by rw [e1, f1]; rfl, .cons (SqT.of (W2.sub.et (by rw [e2, ey]))) f2, .cons ⟨rfl, e4⟩ f3⟩
  obtain ⟨ps, kvs, f1, f2, f3⟩ := this r
  exact ⟨a, ps, kvs, by rw [e], by rw [← f1]; exact SqL.of (W2.sub.el s), f2, fun p hp => k p (W2.put p _ (W2.free hp)) (g2.and (W2.grow_put hp)) (was_none g2.md hp) ⟨W2.free hp, _, upd_same, kreps_fill f3⟩⟩
end
section
variable {κ α : Type} [DecidableEq κ] [PyKV κ] [Py α] {K : Fg} {W : Wd} {σ : SS} {ε : Ef} {te : TE} {kv : List (κ × α)} {d : Addr}
/-- dict(d) -/
theorem em_copy (hd : EvR ε K te σ W (Raw.mk (.ref d))) (m : DStay ε K W d kv) : EvM ε K (tCB rDictC (tCons te tNil)) σ W kv := fun W1 g1 Q k => hd W1 g1 _ fun v W2 g2 e => by
  obtain ⟨ks, e2, r⟩ := m _ (g1.trans g2)
  exact ⟨d, ks, by rw [show v = V.ref d from e], .inl e2, fun p hp => k p (W2.put p _ (W2.free hp)) (g2.and (W2.grow_put hp)) (was_none g2.md hp) ⟨W2.free hp, _, upd_same, r⟩⟩
end
theorem ev_listVE {κ : Type} [DecidableEq κ] [PyKey κ] {K : Fg} {W : Wd} {d : Addr} {kv : List (κ × Int)} {ε : Ef} {σ : SS} {te : TE} (hd : EvR ε K te σ W (Raw.mk (.ref d))) (m : DStay ε K W d kv) : EvR ε K (tCB rListV (tCons (tVals te) tNil)) σ W (kv.map (·.2)) := fun W1 g1 Q k => hd W1 g1 _ fun v W2 g2 e => by
  obtain ⟨ks, e3, r⟩ := m _ (g1.trans g2)
  refine ⟨d, ks, e, e3, fun v hv => ?_⟩
  have gv := W2.grow_put (o := viewHO v d) hv
  refine ⟨v, d, ks, kv.map (·.2), rfl, upd_same, by rw [upd_ne (fun z => by rw [z, hv] at e3; cases e3)]; exact e3, kreps_ints r, fun p hp => ?_⟩
  exact k _ ((W2.put v (viewHO v d) (W2.free hv)).add p _) ((g2.and gv).and (Wd.grow_add _ hp)) ⟨p, _, rfl, upd_same, int_reps _⟩
end B
/-! words, for laws without letters' class -/
namespace B
open PySem L2
open PySem.W (Tup T3 T4 Datum DatumOrd)
open Evl (Ex)
structure IsWord (s : Str) : Prop where
  lo : 1 ≤ s.length
  hi : s.length ≤ 6
  ok : ∀ c ∈ s.cps.toList, 97 ≤ c ∧ c ≤ 122
abbrev abcT : Str := "abcdefghijklmnopqrstuvwxyz"
theorem abc_list : (abcT).cps.toList = (List.range 26).map (97 + ·) := by decide +kernel
theorem nb_t {b : Bool} (h : (!b) = true) : b = false := by cases b <;> simp_all
theorem nb_f {b : Bool} (h : (!b) = false) : b = true := by cases b <;> simp_all
section
variable {K : Fg} {W : Wd} {ε : Ef}
theorem ei_str {σ : SS} {te : TE} {x : Str} (h : EvR ε K te σ W x) : EvJ ε K (iStr te) σ W (signs x) := fun W1 g1 R k => h W1 g1 _ fun v W2 g2 r => by
  have sl : (signs x).length = x.cps.size := by unfold signs; simp
  refine ⟨x, r, k (Its x) W2 g2 ⟨fun i W' _ hi => by rw [sl] at hi; exact hi, fun i W' v H'' _ hi ⟨e1, c, e2, e3⟩ => ⟨⟨#[c]⟩, W', e1.symm, .refl _ _, ?_, e3⟩, fun i W' _ hi => by rw [sl] at hi; exact hi⟩⟩
  unfold signs
  rw [List.getElem?_map, Array.getElem?_toList, e2]; rfl
end
end B
/-! words split, joined of drawn signs -/
namespace B
open PySem L2
open PySem.W (Tup T3 T4 Datum DatumOrd)
open Evl (Ex)
abbrev tSplit (K : Fg) (to te : TE) : TE := tM1 (fun x xs H Q => ∃ a b, x = .str a ∧ xs = [.str b] ∧ (b.length == 0) = false ∧ a.length + 2 ≤ sizeLine ∧ rNewStrs (Txt.split a b) H Q) to te
abbrev tJoin (K : Fg) (to te : TE) : TE := tM1 (fun x xs H Q => ∃ a p, ∃ ys : List Str, x = .str a ∧ xs = [.ref p] ∧ (SqL K H p (ys.map V.str) ∨ SqT K H p (ys.map V.str)) ∧ (ys.map (·.length)).sum + ys.length * a.length ≤ 16777216 ∧ Q (.str (Txt.join a ys)) H) to te
def IsSign (s : Str) : Prop := ∃ c, 97 ≤ c ∧ c ≤ 122 ∧ s = ⟨#[c]⟩
theorem joinL_nil : ∀ ps : List (List Nat), TL.joinL [] ps = ps.flatten
  | [] => rfl
  | [p] => by simp [TL.joinL]
  | p :: q :: r => by
    show p ++ ([] ++ TL.joinL [] (q :: r)) = _
    rw [joinL_nil (q :: r)]; simp
theorem signs_cps : ∀ ys : List Str, (∀ y ∈ ys, IsSign y) → ∃ cs : List Nat, cs.length = ys.length ∧ (∀ c ∈ cs, 97 ≤ c ∧ c ≤ 122) ∧ (ys.map fun y => y.cps.toList).flatten = cs
  | [], _ => ⟨[], rfl, fun _ h => (by simp at h), rfl⟩
  | y :: ys, h => by
    obtain ⟨c, h1, h2, rfl⟩ := h y List.mem_cons_self
    obtain ⟨cs, e1, e2, e3⟩ := signs_cps ys fun z hz => h z (List.mem_cons_of_mem _ hz)
    refine ⟨c :: cs, by simp [e1], fun d hd => ?_, by simp [← e3]⟩
    rcases List.mem_cons.mp hd with rfl | hd
    · exact ⟨h1, h2⟩
    · exact e2 d hd
theorem word_of {ys : List Str} (h : ∀ y ∈ ys, IsSign y) (h1 : 1 ≤ ys.length) (h2 : ys.length ≤ 6) : IsWord (Txt.join "" ys) := by
  obtain ⟨cs, e1, e2, e3⟩ := signs_cps ys h
  have e : (Txt.join "" ys).cps.toList = cs := by
    rw [TL.join_eq]
    have := TL.tl_join "" ys
    rw [show TL.tl "" = [] from rfl, joinL_nil] at this
    exact this.trans e3
  have l : (Txt.join "" ys).length = ys.length := by
    show (Txt.join "" ys).cps.size = _
    rw [← Array.length_toList, e, e1]
  exact ⟨by omega, by omega, fun c hc => e2 c (by rw [← e]; exact hc)⟩
theorem signs_sum : ∀ ys : List Str, (∀ y ∈ ys, IsSign y) → (ys.map (·.length)).sum = ys.length
  | [], _ => rfl
  | y :: ys, h => by
    obtain ⟨c, _, _, rfl⟩ := h y List.mem_cons_self
    rw [List.map_cons, List.sum_cons, signs_sum ys fun z hz => h z (List.mem_cons_of_mem _ hz), List.length_cons]
    show 1 + _ = _
    omega
section
variable {K : Fg} {W : Wd} {σ : SS} {ε : Ef} {te : TE}
theorem en_split {a b : Str} (hb : (b.length == 0) = false) (ha : a.length + 2 ≤ 100000) : EvN ε K (tSplit K (tC (.str a)) (tC (.str b))) σ W (Txt.split a b) := fun W1 g1 Q k =>
  ⟨⟨a, rfl⟩, a, b, rfl, rfl, hb, Evl.sz_of ha, fun p hp => k p _ (W1.put p _ (W1.free hp)) (g1.rf.and (W1.grow_put hp)) hp (W1.free hp) upd_same (str_reps _)⟩
/-- ''.join of drawn signs -/
theorem ep_join (h : EvP ε te σ W (fun v W' => ∃ (ys : List Str), 1 ≤ ys.length ∧ ys.length ≤ 6 ∧ (∀ y ∈ ys, IsSign y) ∧ rep K W'.B v ys)) : EvP ε (tJoin K (tC (.str "")) te) σ W (fun v _ => ∃ w, v = .str w ∧ IsWord w) := fun W1 g1 Q k =>
  ⟨⟨_, rfl⟩, h W1 g1 _ fun v W2 g2 ⟨ys, h1, h2, h3, a, vs, e, s, r⟩ => ⟨"", a, ys, rfl, by rw [e], .inl (by rw [← reps_str r]; exact SqL.of (W2.sub.el s)), by
    rw [signs_sum ys h3]
    show ys.length + ys.length * 0 ≤ _
    omega, k _ W2 g2 ⟨_, rfl, word_of h3 h1 h2⟩⟩⟩
end
theorem al_at : ∀ k, k < 26 → (("abcdefghijklmnopqrstuvwxyz" : Str)).cps.toList[k]? = some (97 + k) := by
  have : ∀ k ∈ List.range 26, (("abcdefghijklmnopqrstuvwxyz" : Str)).cps.toList[k]? = some (97 + k) := by decide +kernel
  exact fun k h => this k (List.mem_range.mpr h)
/-- what can be shown, in so many signs -/
structure ShowOk (b : Nat) (d : PyData) : Prop where
  sh : d.showable = true
  nd : d.hasDict = false
  ln : d.shown.length ≤ b
theorem ShowOk.up {b c : Nat} {d : PyData} (h : ShowOk b d) (hc : b ≤ c) : ShowOk c d := ⟨h.sh, h.nd, Nat.le_trans h.ln hc⟩
theorem show_int {i : Int} (h : i.natAbs.log2 < 1920) : ShowOk 1921 (.int i) := ⟨by simp [PyData.showable, h], by simp [PyData.hasDict], by
  simp only [PyData.shown]; exact PyProof.Rows.int_text_len_1921 h⟩
theorem show_none : ShowOk 1921 .none := ⟨by simp [PyData.showable], by simp [PyData.hasDict], by
  simp only [PyData.shown]
  have : (("None" : Str)).length = 4 := by decide +kernel
  omega⟩
theorem show_str {s : Str} (h : ∀ c ∈ s.cps.toList, c < 16 ^ 8) : ShowOk (10 * s.length + 2) (.str s) := ⟨by simp [PyData.showable], by simp [PyData.hasDict], by
  simp only [PyData.shown]; exact PySem.StrLaws.reprText_len s h⟩
theorem show_word {s : Str} (h : IsWord s) : ShowOk 1921 (.str s) := (show_str fun c hc => by
  have := h.ok c hc
  have : (122 : Nat) < 16 ^ 8 := by decide
  omega).up (by have := h.hi; omega)
theorem show_pair {b : Nat} {x y : PyData} (hx : ShowOk b x) (hy : ShowOk b y) : ShowOk (2 * b + 7) (.tuple [x, y]) := ⟨by simp [PyData.showable, PyData.showableAll, hx.sh, hy.sh], by simp [PyData.hasDict, PyData.hasDictAll, hx.nd, hy.nd], by
  simp only [PyData.shown, PyData.shownAll]
  have := tupleText_len_le [x.shown, y.shown]
  have h1 := hx.ln
  have h2 := hy.ln
  simp only [List.map_cons, List.map_nil, List.sum_cons, List.sum_nil, List.length_cons, List.length_nil] at this
  omega⟩
theorem show_all {b : Nat} : ∀ ds : List PyData, (∀ d ∈ ds, ShowOk b d) → PyData.showableAll ds = true ∧ PyData.hasDictAll ds = false ∧ ((PyData.shownAll ds).map (·.length)).sum ≤ ds.length * b ∧ (PyData.shownAll ds).length = ds.length
  | [], _ => ⟨by simp [PyData.showableAll], by simp [PyData.hasDictAll], by simp [PyData.shownAll], by simp [PyData.shownAll]⟩
  | d :: ds, h => by
    have h1 := h d List.mem_cons_self
    obtain ⟨a1, a2, a3, a4⟩ := show_all ds fun e he => h e (List.mem_cons_of_mem _ he)
    refine ⟨by simp [PyData.showableAll, h1.sh, a1], by simp [PyData.hasDictAll, h1.nd, a2], ?_, by simp [PyData.shownAll, a4]⟩
    simp only [PyData.shownAll, List.map_cons, List.sum_cons, List.length_cons]
    have := h1.ln
    have : (ds.length + 1) * b = ds.length * b + b := by rw [Nat.add_mul, Nat.one_mul]
    omega
/-- a text of so many signs that can be shown -/
structure TxB (b : Nat) (s : Str) : Prop where
  ln : s.length ≤ b
  ok : ∀ c ∈ s.cps.toList, c < 16 ^ 8
theorem TxB.up {a b : Nat} {s : Str} (h : TxB a s) (l : a ≤ b) : TxB b s := ⟨Nat.le_trans h.ln l, h.ok⟩
theorem len_app (x y : Str) : (x ++ y).length = x.length + y.length := by
  show (x.cps ++ y.cps).size = x.cps.size + y.cps.size
  rw [Array.size_append]
theorem TxB.app {a b : Nat} {x y : Str} (h : TxB a x) (h' : TxB b y) : TxB (a + b) (x ++ y) := ⟨by rw [len_app]; exact Nat.add_le_add h.ln h'.ln, fun c hc => by
  have hc : c ∈ (x.cps ++ y.cps).toList := hc
  rw [Array.toList_append] at hc
  rcases List.mem_append.mp hc with h1 | h1
  · exact h.ok c h1
  · exact h'.ok c h1⟩
theorem TxB.cut {b : Nat} {s : Str} (h : TxB b s) (lo hi : Option Int) : TxB b (cutS s lo hi) := by
  have e : (cutS s lo hi).cps.toList = (s.cps.toList.drop (HT.sIx s.length 0 lo)).take (HT.sIx s.length s.length hi - HT.sIx s.length 0 lo) := by unfold cutS; simp
  refine ⟨?_, fun c hc => ?_⟩
  · have h1 : (cutS s lo hi).length = (cutS s lo hi).cps.toList.length := by rw [Array.length_toList]; rfl
    rw [h1, e, List.length_take, List.length_drop, Array.length_toList]
    have : s.cps.size = s.length := rfl
    have := h.ln
    omega
  · rw [e] at hc
    exact h.ok c (List.mem_of_mem_drop (List.mem_of_mem_take hc))
theorem txb_word {s : Str} (h : IsWord s) : TxB 6 s := ⟨h.hi, fun c hc => by
  have := h.ok c hc
  have : (122 : Nat) < 16 ^ 8 := by decide
  omega⟩
theorem txb_sign {c : Nat} (h : c < 16 ^ 8) : TxB 1 (⟨#[c]⟩ : Str) := ⟨Nat.le_refl 1, fun d hd => by
  have hd : d ∈ [c] := hd
  rw [List.mem_singleton.mp hd]; exact h⟩
theorem up26 : ∀ k ∈ List.range 26, Unicode.upperOf (97 + k) = [65 + k] := by decide +kernel
theorem up_sign {c : Nat} (h1 : 97 ≤ c) (h2 : c ≤ 122) : Unicode.upperOf c = [c - 32] := by
  have := up26 (c - 97) (List.mem_range.mpr (by omega))
  rw [show 97 + (c - 97) = c by omega, show 65 + (c - 97) = c - 32 by omega] at this
  exact this
theorem txb_upper {s : Str} (h : IsWord s) : TxB 18 (Txt.upper s) := ⟨by have := PyProof.Rows.len_upper s; have := h.hi; omega, fun d hd => by
  have hd : d ∈ (placed s fun _ c => Unicode.upperOf c).toList := hd
  unfold placed at hd
  rw [Array.mem_toList_iff, Array.mem_flatten] at hd
  obtain ⟨a, ha, hda⟩ := hd
  obtain ⟨i, hi, rfl⟩ := Array.mem_mapIdx.mp ha
  have hc := h.ok s.cps[i] (by rw [Array.mem_toList_iff]; exact Array.getElem_mem hi)
  have hda : d ∈ (Unicode.upperOf s.cps[i]).toArray := hda
  rw [up_sign hc.1 hc.2] at hda
  have : d = s.cps[i] - 32 := by simpa using hda
  have : (122 : Nat) < 16 ^ 8 := by decide
  omega⟩
section
variable {K : Fg} {W : Wd} {σ : SS} {ε : Ef} {te : TE}
theorem ro_catS {x y : Str} (h : x.length + y.length ≤ 100000) : RO K oCatS x y (x ++ y) := ro_val fun v u W2 rv ru Q k => ⟨x, y, rv, ru, Evl.sz_of h, k _ rfl⟩
theorem ev_slS {tl th : TO} {s : Str} {lo hi : Option Int} (h : EvR ε K te σ W s) (h1 : EvO ε tl σ W lo) (h2 : EvO ε th σ W hi) (hl : s.length ≤ 100000) : EvR ε K (tSl rSlS te tl th) σ W (cutS s lo hi) := fun W1 g1 Q k =>
  h W1 g1 _ fun v W2 g2 rx => h1 W2 (g1.trans g2) _ fun W3 g3 => h2 W3 ((g1.trans g2).trans g3) _ fun W4 g4 => ⟨s, rx, Evl.sz_of hl, k _ W4 ((g2.trans g3).trans g4) rfl⟩
end
end B
/-! the draws of the laws: begun, draw, pick -/
namespace B
open PySem L2
open Evl (Ex)
/-- the state of draws: the list at p holds the cells' list (at c), the place, the mixed number -/
structure St (W : Wd) (p c : Addr) : Prop where
  bp : W.B p = none
  bc : W.B c = none
  ne : p ≠ c
  ex : ∃ (a m : Int) (cs : List Int), W.H p = some (.lst [.ref c, .int a, .int m]) ∧ W.H c = some (.lst (cs.map V.int)) ∧ cs ≠ [] ∧ (∀ x ∈ cs, 0 ≤ x) ∧ 0 ≤ a ∧ 0 ≤ m ∧ m < 2147483647
theorem St.keep {W W' : Wd} {p c : Addr} (s : St W p c) (hp : W'.H p = W.H p) (hc : W'.H c = W.H c) (bp : W'.B p = W.B p) (bc : W'.B c = W.B c) : St W' p c :=
  ⟨bp.trans s.bp, bc.trans s.bc, s.ne, by
    obtain ⟨a, m, cs, h1, h2, r⟩ := s.ex
    exact ⟨a, m, cs, hp.trans h1, hc.trans h2, r⟩⟩
theorem St.dom {W : Wd} {p c : Addr} (s : St W p c) : W.H p ≠ none ∧ W.H c ≠ none := by
  obtain ⟨a, m, cs, h1, h2, _⟩ := s.ex
  exact ⟨by rw [h1]; exact (fun z => by cases z), by rw [h2]; exact (fun z => by cases z)⟩
theorem St.nt {W : Wd} {p c : Addr} (s : St W p c) : Nt W.H p ∧ Nt W.H c := by
  obtain ⟨a, m, cs, h1, h2, _⟩ := s.ex
  exact ⟨.l h1, .l h2⟩
theorem St.off {S : List Addr} {W W' : Wd} {p c : Addr} (s : St W p c) (g : Md S W W') (hp : p ∉ S) (hc : c ∉ S) : St W' p c := by
  obtain ⟨a, m, cs, h1, h2, r⟩ := id s.ex
  exact s.keep ((g.o p _ hp h1).trans h1.symm) ((g.o c _ hc h2).trans h2.symm) (g.m p s.nt.1) (g.m c s.nt.2)
theorem St.g {W W' : Wd} {p c : Addr} (s : St W p c) (g : Grow W W') : St W' p c := s.off g (by simp) (by simp)
/-- the effect of drawing -/
def drw (p c : Addr) : Ef := ⟨[p, c], fun W => St W p c, fun W a s h => by
    have : a = p ∨ a = c := by simpa using h
    rcases this with e | e <;> rw [e]
    · exact s.nt.1
    · exact s.nt.2,
  fun W W' b h s => by
    have h1 := h p (by simp) s.nt.1
    have h2 := h c (by simp) s.nt.2
    exact s.keep h1.1 h2.1 h1.2 h2.2⟩

def sp__law_begun (K : Fg) : Sp := fun vs H Q _ => ∃ (W : Wd) (a : Addr) (ns : List Int), W.H = H ∧ vs = [.ref a] ∧ SqL K W.B a (ns.map V.int) ∧ ns.length ≤ 63 ∧
  ∀ p c W', Grow W W' → St W' p c → W.H p = none → W.H c = none → Q (.ref p) W'.H
theorem len__law_begun {K : Fg} {vs : List V} {H : Hp} {Q : VK} {E : XK} (h : sp__law_begun K vs H Q E) : vs.length = ["_law_script"].length := by
  obtain ⟨W, a, ns, _, rfl, _⟩ := h
  rfl
/-- _law_begun: the slots 0 _law_script, 1 _law_cells, 2 _law_cell -/
abbrev n__law_begun : List Str := ["_law_script", "_law_cells", "_law_cell"]
def t__law_begun (K : Fg) : TS := (tSeq (tAsg (tLc (iList K (tVar 0)) (gName 2) tYes (tCB rAbs (tCons (tVar 2) tNil)) [2]) (gName 1))
  (tSeq (tIfS (tTest (tOp (rEqT K false) (tVar 1) (tLst tNil))) (tAsg (tLst (tCons (tC (.int 1)) tNil)) (gName 1)) tNext)
  (tRet (tLst (tCons (tVar 1) (tCons (tC (.int 0)) (tCons (tC (.int 1)) tNil)))))))
def sp__law_draw (K : Fg) : Sp := fun vs H Q _ => ∃ (W : Wd) (p c : Addr) (n : Int), W.H = H ∧ vs = [.ref p, .int n] ∧ St W p c ∧ 0 < n ∧ n < 1073741824 ∧
  ∀ r W', 0 ≤ r → r < n → Md [p, c] W W' → St W' p c → Q (.int r) W'.H
theorem len__law_draw {K : Fg} {vs : List V} {H : Hp} {Q : VK} {E : XK} (h : sp__law_draw K vs H Q E) : vs.length = ["_law_state", "_law_number"].length := by
  obtain ⟨W, p, c, n, _, rfl, _⟩ := h
  rfl
/-- _law_draw: the slots 0 _law_state, 1 _law_many, 2 _law_cells, 3 _law_at, 4 _law_cell -/
abbrev n__law_draw : List Str := ["_law_state", "_law_many", "_law_cells", "_law_at", "_law_cell"]
def t__law_draw (K : Fg) : TS := (tSeq (tAsg (tOp (rIxL K) (tVar 0) (tC (.int 0))) (gName 2))
  (tSeq (tAsg (tOp oMod (tOp (rIxL K) (tVar 0) (tC (.int 1))) (tCB (rLen K) (tCons (tVar 2) tNil))) (gName 3))
  (tSeq (tAsg (tOp (rIxL K) (tVar 2) (tVar 3)) (gName 4))
  (tSeq (tIfS (tTest (tOp oGe (tVar 4) (tOp oPow (tC (.int 10)) (tC (.int 18))))) (tSeq (tAsg (tOp oDiv (tVar 4) (tVar 1)) (gSub (tVar 2) (tVar 3) rSetL))
  (tRet (tOp oMod (tVar 4) (tVar 1)))) tNext)
  (tSeq (tAsg (tOp oAdd (tOp (rIxL K) (tVar 0) (tC (.int 1))) (tC (.int 1))) (gSub (tVar 0) (tC (.int 1)) rSetL))
  (tSeq (tAsg (tOp oMod (tOp oAdd (tOp oAdd (tOp oMul (tOp (rIxL K) (tVar 0) (tC (.int 2))) (tC (.int 48271))) (tVar 4)) (tC (.int 12345))) (tC (.int 2147483647))) (gSub (tVar 0) (tC (.int 2)) rSetL))
  (tRet (tOp oMod (tOp oDiv (tOp oMod (tOp oMul (tOp (rIxL K) (tVar 0) (tC (.int 2))) (tOp (rIxL K) (tVar 0) (tC (.int 2)))) (tC (.int 2147483629))) (tC (.int 16))) (tVar 1)))))))))
def sp__law_pick (K : Fg) : Sp := fun vs H Q _ => ∃ (W : Wd) (p c b : Addr) (ys : List V), W.H = H ∧ vs = [.ref p, .ref b] ∧ St W p c ∧ W.B b = some (.lst ys) ∧ ys ≠ [] ∧ ys.length < 100000 ∧
  ∀ y W', y ∈ ys → Md [p, c] W W' → St W' p c → Q y W'.H
theorem len__law_pick {K : Fg} {vs : List V} {H : Hp} {Q : VK} {E : XK} (h : sp__law_pick K vs H Q E) : vs.length = ["_law_state", "_law_some"].length := by
  obtain ⟨W, p, c, b, ys, _, rfl, _⟩ := h
  rfl
/-- _law_pick: the slots 0 _law_state, 1 _law_some -/
abbrev n__law_pick : List Str := ["_law_state", "_law_some"]
def t__law_pick (K : Fg) : TS := (tRet (tOp (rIxL K) (tVar 1) (tCall (sp__law_draw K) [] E0 (tCons (tVar 0) (tCons (tCB (rLen K) (tCons (tVar 1) tNil)) tNil)))))
theorem ev_draw {K : Fg} {W : Wd} {σ : SS} {te : TE} {i : Nat} {p c : Addr} {n : Int} (h1 : σ[i]? = some (some (.ref p))) (hn : EvR (drw p c) K te σ W n) (h0 : 0 < n) (h2 : n < 1073741824) :
    EvP (drw p c) (tCall (sp__law_draw K) [] E0 (tCons (tVar i) (tCons te tNil))) σ W (fun v _ => ∃ r, v = .int r ∧ 0 ≤ r ∧ r < n) := fun W1 g1 Q k =>
  ⟨_, h1, hn W1 g1 _ fun u W2 g2 r => ⟨W2, p, c, n, rfl, by rw [show u = _ from r]; rfl, (show St W2 p c from g2.i), h0, h2, fun r W3 a b g s => k _ W3 (g2.trans ⟨g, s⟩) ⟨r, rfl, a, b⟩⟩⟩
section
variable {K : Fg} {vs : List V} {H : Hp} {Q : VK} {E : XK}
theorem sq_items {a : Addr} {W : Wd} {ns : List Int} (h : SqL K W.B a (ns.map V.int)) {σ : SS} {i : Nat} (hv : σ[i]? = some (some (.ref a))) : EvJ pur K (iList K (tVar i)) σ W ns := fun W1 g1 R k => by
  have s : ∀ W', On W W' → SqL K W'.H a (ns.map V.int) := fun W' o => W'.sub.l ((exExt o.b).l h)
  refine ⟨.ref a, hv, a, rfl, ⟨_, s W1 g1.on⟩, k (Itl K a) W1 g1.rf ⟨fun i W' o hi => ?_, fun i W' v H'' o hi ⟨e1, e2⟩ => ?_, fun i W' o hi => ?_⟩⟩
  · exact ⟨_, V.int ns[i], s W' (g1.on.trans o), by simp [hi]⟩
  · have := e2 _ (s W' (g1.on.trans o))
    rw [List.getElem?_map] at this
    cases q : ns[i]? with
    | none => rw [q] at this; cases this
    | some z =>
      rw [q] at this
      exact ⟨z, W', e1.symm, .refl _ _, rfl, (Option.some.inj this).symm⟩
  · exact ⟨_, s W' (g1.on.trans o), by simpa using hi⟩
theorem rd__law_begun (h : sp__law_begun K vs H Q E) : t__law_begun K { nx := fun _ H' => Q .non H', rt := Q } (start n__law_begun vs) H := by
  obtain ⟨W, a, ns, rfl, rfl, hs, hl, k⟩ := h
  show t__law_begun K _ [some (.ref a), none, none] W.H
  -- cells = [abs(cell) for cell in script]
  refine q_asgN (ε := pur) (xs := ns.map fun n => if n < 0 then -n else n) (en_lcN (sq_items hs rfl).i (fun x v W' hx g r => ev_cb1 (ev_var rfl r) rc_abs) (by omega)) trivial fun p1 vs1 W1 g1 f1 n1 e1 r1 => ?_
  have ei1 : vs1 = (ns.map fun n => if n < 0 then -n else n).map V.int := reps_int r1
  subst ei1
  have fin : ∀ (W2 : Wd) (cs : List Int) (c : Addr), Grow W W2 → W.H c = none → W2.B c = none → W2.H c = some (.lst (cs.map V.int)) → cs ≠ [] → (∀ x ∈ cs, 0 ≤ x) →
      tRet (tLst (tCons (tVar 1) (tCons (tC (V.int 0)) (tCons (tC (V.int 1)) tNil)))) { nx := fun _ H' => Q .non H', rt := Q } [some (.ref a), some (.ref c), none] W2.H := fun W2 cs c g f n e hne hp => by
    refine ⟨_, rfl, Evl.sz_of (by show 3 ≤ 100000; decide), fun p hp' => ?_⟩
    have npc : p ≠ c := fun z => by rw [z, e] at hp'; cases hp'
    exact k p c (W2.put p _ (W2.free hp')) (g.trans (W2.grow_put hp')) ⟨W2.free hp', n, npc, 0, 1, cs, upd_same, (upd_ne npc.symm).trans e, hne, hp, by decide, by decide, by decide⟩ (by
      cases q : W.H p with
      | none => rfl
      | some o => exact absurd hp' (g.d p (by rw [q]; exact fun z => by cases z))) f
  -- if cells == []
  refine ⟨_, rfl, Evl.sz_of (by show 0 ≤ 100000; decide), fun pe hpe => ⟨List Int, inferInstance, inferInstance, ns.map fun n => if n < 0 then -n else n, [], ?_, ?_, by decide, _, rfl, ?_⟩⟩
  · have ne : p1 ≠ pe := fun z => by rw [z, hpe] at e1; cases e1
    exact PyD.dp (α := List Int) ⟨p1, _, rfl, (upd_ne ne).trans e1, int_reps _⟩
  · exact PyD.dp (α := List Int) ⟨pe, _, rfl, upd_same, .nil⟩
  · have g2 : Grow W1 (W1.put pe (.lst []) (W1.free hpe)) := W1.grow_put hpe
    have m2 := g2.mut (by simp) e1 n1
    refine ite2 (fun hb => ?_) (fun hb => ?_)
    · refine ⟨Evl.sz_of (by show 1 ≤ 100000; decide), fun p hp => ?_⟩
      have hp0 : (W1.put pe (.lst []) (W1.free hpe)).H p = none := hp
      refine fin ((W1.put pe (.lst []) (W1.free hpe)).put p (.lst [.int 1]) (Wd.free _ hp0)) [1] p ((g1.pure.trans g2).trans (Wd.grow_put _ hp0)) ?_ (Wd.free (W1.put pe (.lst []) (W1.free hpe)) hp0) upd_same (by simp) (by simp)
      cases q : W.H p with
      | none => rfl
      | some o => exact absurd hp0 ((g1.pure.trans g2).d p (by rw [q]; exact fun z => by cases z))
    · refine fin (W1.put pe (.lst []) (W1.free hpe)) _ p1 (g1.pure.trans g2) f1 m2.2 m2.1 (of_decide_eq_false (by simpa using hb)) ?_
      intro x hx
      simp only [List.mem_map] at hx
      obtain ⟨n, _, rfl⟩ := hx
      split <;> omega
theorem rd__law_draw (h : sp__law_draw K vs H Q E) : t__law_draw K { nx := fun _ H' => Q .non H', rt := Q } (start n__law_draw vs) H := by
  obtain ⟨W, p, c, n, rfl, rfl, s, hn, hn2, k⟩ := h
  obtain ⟨a, m, cs, h1, h2, hne, hpos, ha, hm, hm2⟩ := id s.ex
  show t__law_draw K _ [some (.ref p), some (.int n), none, none, none] W.H
  have hlen : 0 < cs.length := List.length_pos_iff.mpr hne
  have hlenI : (0 : Int) < (cs.length : Int) := by omega
  obtain ⟨j, hj, hj2⟩ : ∃ j : Nat, a % (cs.length : Int) = (j : Int) ∧ j < cs.length := by
    have e1 := Int.emod_nonneg a (show (cs.length : Int) ≠ 0 by omega)
    have e2 := Int.emod_lt_of_pos a hlenI
    exact ⟨(a % (cs.length : Int)).toNat, by omega, by omega⟩
  have hx : (cs.map V.int)[j]? = some (V.int cs[j]) := by simp [hj2]
  have hx0 : 0 ≤ cs[j] := hpos _ (List.getElem_mem _)
  -- cells = state[0]; at = state[1] % len(cells); cell = cells[at]
  refine ⟨_, rfl, p, _, 0, _, rfl, rfl, SqL.of h1, rfl, ?_⟩
  refine ⟨_, rfl, p, _, 1, _, rfl, rfl, SqL.of h1, rfl, _, rfl, c, _, rfl, .inl (SqL.of h2), _, _, rfl, rfl, by rw [List.length_map]; exact hlenI, ?_⟩
  simp only [List.length_map, hj, gName]
  refine ⟨_, rfl, _, rfl, c, _, _, _, rfl, rfl, SqL.of h2, atI_nat hx, ?_⟩
  -- if cell >= 10 ** 18
  refine ⟨_, rfl, _, _, rfl, rfl, ⟨by decide, by decide, by decide⟩, _, _, rfl, rfl, _, rfl, ?_⟩
  refine ite2 (fun hc => ?_) (fun hc => ?_)
  · refine ⟨_, rfl, _, rfl, _, _, rfl, rfl, ⟨hn, hn2⟩, _, rfl, _, rfl, c, _, _, j, rfl, rfl, h2, by rw [List.length_map]; exact Evl.ixN_nat hj2, ?_⟩
    refine ⟨_, rfl, _, rfl, _, _, rfl, rfl, hn, ?_⟩
    refine k _ (W.put c _ s.bc) (Int.emod_nonneg _ (by omega)) (Int.emod_lt_of_pos _ hn) ((md_put s.bc).mono (by intro x; simp; exact fun h => .inr h)) ⟨s.bp, s.bc, s.ne, a, m, cs.set j (cs[j] / n), ?_, ?_, ?_, ?_, ha, hm, hm2⟩
    · show upd W.H c _ p = _
      rw [upd_ne s.ne]; exact h1
    · show upd W.H c _ c = _
      rw [upd_same, List.map_set]
    · intro z
      apply hne
      have : (cs.set j (cs[j] / n)).length = 0 := by rw [z]; rfl
      rw [List.length_set] at this
      exact List.length_eq_zero_iff.mp this
    · intro x hx'
      rcases List.mem_or_eq_of_mem_set hx' with z | z
      · exact hpos x z
      · rw [z]; exact Int.ediv_nonneg hx0 (by omega)
  · refine ⟨_, rfl, p, _, 1, _, rfl, rfl, SqL.of h1, rfl, _, _, rfl, rfl, _, rfl, p, _, _, 1, rfl, rfl, h1, rfl, ?_⟩
    refine ⟨_, rfl, p, _, 2, _, rfl, rfl, SqL.of upd_same, rfl, _, _, rfl, rfl, .inl ⟨by omega, by omega⟩, _, rfl, _, _, rfl, rfl, _, _, rfl, rfl, _, _, rfl, rfl, by show (0 : Int) < 2147483647; decide, _, rfl, p, _, _, 2, rfl, rfl, upd_same, rfl, ?_⟩
    have m0 := Int.emod_nonneg (m * 48271 + cs[j] + 12345) (show (2147483647 : Int) ≠ 0 by decide)
    have m1 := Int.emod_lt_of_pos (m * 48271 + cs[j] + 12345) (show (0 : Int) < 2147483647 by decide)
    refine ⟨_, rfl, p, _, 2, _, rfl, rfl, SqL.of upd_same, rfl, _, rfl, p, _, 2, _, rfl, rfl, SqL.of upd_same, rfl, _, _, rfl, rfl, .inl ⟨by omega, by omega⟩, _, _, rfl, rfl, by show (0 : Int) < 2147483629; decide, _, _, rfl, rfl, ⟨by decide, by decide⟩, _, rfl, _, _, rfl, rfl, hn, ?_⟩
    rw [upd_upd]
    refine k _ (W.put p _ s.bp) (Int.emod_nonneg _ (by omega)) (Int.emod_lt_of_pos _ hn) ((md_put s.bp).mono (by intro x; simp; exact fun h => .inl h)) ⟨s.bp, s.bc, s.ne, a + 1, _, cs, upd_same, ?_, hne, hpos, by omega, m0, m1⟩
    show upd W.H p _ c = _
    rw [upd_ne (Ne.symm s.ne)]; exact h2
theorem rd__law_pick (h : sp__law_pick K vs H Q E) : t__law_pick K { nx := fun _ H' => Q .non H', rt := Q } (start n__law_pick vs) H := by
  obtain ⟨W, p, c, b, ys, rfl, rfl, s, hb, hne, hl, k⟩ := h
  have hlen : 0 < ys.length := List.length_pos_iff.mpr hne
  have hbH : W.H b = some (.lst ys) := W.sub.el hb
  refine ⟨_, rfl, _, rfl, _, rfl, b, _, rfl, .inl (SqL.of hbH), W, p, c, _, rfl, rfl, s, by omega, by omega, fun r W' h0 h1 g s' => ?_⟩
  have hb' : W'.H b = some (.lst ys) := W'.sub.el (g.b _ _ hb)
  obtain ⟨j, rfl⟩ : ∃ j : Nat, r = (j : Int) := ⟨r.toNat, by omega⟩
  have hj : j < ys.length := by omega
  exact ⟨b, ys, j, ys[j], rfl, rfl, SqL.of hb', atI_nat (by simp [hj]), k _ W' (List.getElem_mem _) g s'⟩
end
end B
/-! the laws' letters: unlike words, any, or of the document -/
namespace B
open PySem L2
open PySem.W (Tup T3 T4 Datum DatumOrd)
open Evl (Ex)
theorem was_noneN {S : List Addr} {W W' : Wd} {p : Addr} (g : Md S W W') (f : W'.H p = none) : W.H p = none := by
  cases q : W.H p with
  | none => rfl
  | some o => exact absurd f (g.d p (by rw [q]; exact fun z => by cases z))
theorem reps_memN {α : Type} [Py α] {K : Fg} {H : Hp} {v : V} : ∀ {vs : List V} {xs : List α}, Reps K H vs xs → v ∈ vs → ∃ x, x ∈ xs ∧ rep K H v x
  | _, _, .nil, h => by cases h
  | _, x :: _, .cons r t, h => by
    rcases List.mem_cons.mp h with e | e
    · subst e; exact ⟨x, List.mem_cons_self, r⟩
    · obtain ⟨y, hy, ry⟩ := reps_memN t e
      exact ⟨y, List.mem_cons_of_mem _ hy, ry⟩
section
variable {K : Fg} {p c : Addr} {W : Wd} {σ : SS} {te tf : TE} {i : Nat} {α β : Type} [Py α] [Py β] {P : α → Prop}
/-- one of these, drawn -/
theorem ex_pick {R : List α → Prop} (h0 : σ[i]? = some (some (.ref p))) (h : EvX (drw p c) K te σ W R) (hR : ∀ xs, R xs → xs ≠ [] ∧ xs.length < 100000 ∧ ∀ x ∈ xs, P x) : EvX (drw p c) K (tCall (sp__law_pick K) [] E0 (tCons (tVar i) (tCons te tNil))) σ W P := fun W1 g1 Q k =>
  ⟨_, h0, h W1 g1 _ fun v W2 g2 ⟨xs, px, a, vs, e, s, r⟩ => by
    obtain ⟨h1, h2, h3⟩ := hR xs px
    have ln := Reps.len r
    refine ⟨W2, p, c, a, vs, rfl, by rw [e]; rfl, (show St W2 p c from g2.i), s, fun z => h1 (List.eq_nil_of_length_eq_zero (by rw [← ln, z]; rfl)), by omega, fun y W3 hy m s3 => ?_⟩
    obtain ⟨x, hx, rx⟩ := reps_memN r hy
    exact k y W3 (g2.trans ⟨m, s3⟩) ⟨x, h3 x hx, Py.mono (exExt m.b) rx⟩⟩
/-- a drawn number > m -/
theorem ep_gtD {m : Int} {P : Int → Prop} {ε : Ef} (h : EvP ε te σ W (fun v _ => ∃ n, v = .int n ∧ P n)) : EvP ε (tOp oGt te (tC (.int m))) σ W (fun v _ => ∃ b : Bool, v = .bl b) := fun W1 g1 Q k => h W1 g1 _ fun v W2 g2 ⟨n, e, p⟩ => by
  subst e
  exact ⟨n, m, rfl, rfl, k _ W2 g2 ⟨_, rfl⟩⟩
/-- x not in ys, ys a list that may change -/
theorem et_ninM {x : Str} {i j : Nat} {d : Addr} {ys : List Str} (h1 : σ[i]? = some (some (.str x))) (h2 : σ[j]? = some (some (.ref d))) (m : LMut K W d ys) : EvT pur (tTest (tOp (rInTL K true) (tVar i) (tVar j))) σ W (!decide (x ∈ ys)) := fun W1 g1 Q k => by
  obtain ⟨vs, e, r⟩ := (m.gr g1.pure).ex
  refine ⟨_, h1, _, h2, Str, inferInstance, inferInstance, x, ys, PyD.dp (α := Str) rfl, PyD.dp (α := List Str) ⟨d, vs, rfl, e, Reps.mono W1.sub r⟩, by decide, _, rfl, ?_⟩
  show Q (if true = true then !decide (x ∈ ys) else decide (x ∈ ys)) W1.H
  rw [if_pos rfl]
  exact k W1 g1.rf
end
/-! ### candidates -/
theorem cut5_list (w : Str) : (cutS w none (some 5)).cps.toList = w.cps.toList.take 5 := by
  have e : (cutS w none (some 5)).cps.toList = (w.cps.toList.drop (HT.sIx w.length 0 none)).take (HT.sIx w.length w.length (some 5) - HT.sIx w.length 0 none) := by unfold cutS; simp
  rw [e]
  have h0 : HT.sIx w.length 0 none = 0 := rfl
  have h5 : HT.sIx w.length w.length (some 5) = min 5 w.length := HT.sIx_nat w.length w.length 5
  rw [h0, h5, List.drop_zero, Nat.sub_zero]
  rcases Nat.le_total 5 w.length with h | h
  · rw [Nat.min_eq_left h]
  · rw [Nat.min_eq_right h, List.take_of_length_le (by rw [Array.length_toList]; exact Nat.le_refl _), List.take_of_length_le (by rw [Array.length_toList]; exact h)]
def candsN (w : Str) : List Str := [w] ++ (signs abcT).map fun s => cutS w none (some 5) ++ s
theorem signs_abc : signs abcT = (List.range 26).map fun k => (⟨#[97 + k]⟩ : Str) := by
  unfold signs
  rw [abc_list, List.map_map]
  rfl
theorem app_list (x y : Str) : (x ++ y).cps.toList = x.cps.toList ++ y.cps.toList := by
  show (x.cps ++ y.cps).toList = _
  rw [Array.toList_append]
theorem cand_word {w : Str} (h : IsWord w) {k : Nat} (hk : k < 26) : IsWord (cutS w none (some 5) ++ (⟨#[97 + k]⟩ : Str)) := by
  have e : (cutS w none (some 5) ++ (⟨#[97 + k]⟩ : Str)).cps.toList = w.cps.toList.take 5 ++ [97 + k] := by rw [app_list, cut5_list]
  have l : (cutS w none (some 5) ++ (⟨#[97 + k]⟩ : Str)).length = min 5 w.length + 1 := by
    show (cutS w none (some 5) ++ (⟨#[97 + k]⟩ : Str)).cps.size = _
    rw [← Array.length_toList, e, List.length_append, List.length_take, Array.length_toList]
    rfl
  refine ⟨by omega, by omega, fun c hc => ?_⟩
  rw [e] at hc
  rcases List.mem_append.mp hc with hc | hc
  · exact h.ok c (List.mem_of_mem_take hc)
  · rw [List.mem_singleton.mp hc]; omega
theorem cands_word {w : Str} (h : IsWord w) : ∀ x ∈ candsN w, IsWord x := fun x hx => by
  unfold candsN at hx
  rw [signs_abc, List.map_map] at hx
  rcases List.mem_append.mp hx with hx | hx
  · rw [List.mem_singleton.mp hx]; exact h
  · obtain ⟨k, hk, rfl⟩ := List.mem_map.mp hx
    exact cand_word h (List.mem_range.mp hk)
theorem cands_len (w : Str) : (candsN w).length = 27 := by
  unfold candsN
  rw [signs_abc, List.length_append, List.length_map, List.length_map, List.length_range]
  rfl
theorem cands_nd (w : Str) : ((List.range 26).map fun k => cutS w none (some 5) ++ (⟨#[97 + k]⟩ : Str)).Nodup := by
  rw [List.nodup_iff_pairwise_ne, List.pairwise_map]
  refine (List.nodup_range (n := 26)).imp fun {a b} hab e => hab ?_
  have := congrArg (fun s : Str => s.cps.toList) e
  simp only [app_list] at this
  have := List.append_cancel_left this
  have h2 : [97 + a] = [97 + b] := this
  have h3 := List.head_eq_of_cons_eq h2
  omega
theorem cands_new {w : Str} {ys : List Str} (hl : ys.length < 26) : ∃ x, ((candsN w).filter fun x => !decide (x ∈ ys))[0]? = some x := by
  rw [← List.head?_eq_getElem?]
  cases e : ((candsN w).filter fun x => !decide (x ∈ ys)).head? with
  | some x => exact ⟨x, rfl⟩
  | none =>
    exfalso
    have hn := List.head?_eq_none_iff.mp e
    have := nodup_le (cands_nd w) (m := ys) fun x hx => by
      apply Classical.byContradiction
      intro z
      have : x ∈ (candsN w).filter fun x => !decide (x ∈ ys) := List.mem_filter.mpr ⟨by
        unfold candsN
        rw [signs_abc, List.map_map]
        exact List.mem_append_right _ hx, by rw [decide_eq_false z]; rfl⟩
      rw [hn] at this
      cases this
    rw [List.length_map, List.length_range] at this
    omega
def ownN : List Str := ["in", "lost", "kept", "jars", "marks", "chest", "fresh", "feed", "ann", "bob", "a", "z"]
theorem own_eq : Txt.split "in lost kept jars marks chest fresh feed ann bob a z" " " = ownN := by decide +kernel
theorem own_words : ∀ s ∈ ownN, IsWord s := by
  intro s hs
  have h : ∀ s ∈ ownN, 1 ≤ s.length ∧ s.length ≤ 6 ∧ ∀ c ∈ s.cps.toList, 97 ≤ c ∧ c ≤ 122 := by decide +kernel
  exact ⟨(h s hs).1, (h s hs).2.1, (h s hs).2.2⟩
def sp__law_names (K : Fg) : Sp := fun vs H Q _ => ∃ (W : Wd) (p c : Addr) (n : Int), W.H = H ∧ vs = [.ref p, .int n] ∧ St W p c ∧ 0 ≤ n ∧ n ≤ 20 ∧
  ∀ v (names : List Str) W', Md [p, c] W W' → St W' p c → rep K W'.B v names → names.Nodup → (∀ s ∈ names, IsWord s) → (names.length : Int) = n → Q v W'.H
theorem len__law_names {K : Fg} {vs : List V} {H : Hp} {Q : VK} {E : XK} (h : sp__law_names K vs H Q E) : vs.length = ["_law_state", "_law_many"].length := by
  obtain ⟨W, p, c, n, _, rfl, _⟩ := h
  rfl
/-- _law_names: the slots 0 _law_state, 1 _law_many, 2 _law_own, 3 _law_found, 4 _law_k, 5 _law_name, 6 _law_j, 7 _law_some, 8 _law_sign, 9 _law_one -/
abbrev n__law_names : List Str := ["_law_state", "_law_many", "_law_own", "_law_found", "_law_k", "_law_name", "_law_j", "_law_some", "_law_sign", "_law_one"]
def t__law_names (K : Fg) : TS := (tSeq (tAsg (tSplit K (tC (.str "in lost kept jars marks chest fresh feed ann bob a z")) (tC (.str " "))) (gName 2))
  (tSeq (tAsg (tLst tNil) (gName 3))
  (tSeq (tFor (iRng1 (tCons (tVar 1) tNil)) (gName 4)
  (tSeq (tAsg (tCall (sp__law_pick K) [] E0 (tCons (tVar 0) (tCons (tVar 2) tNil))) (gName 5))
  (tSeq (tIfS (tTest (tOp oGt (tCall (sp__law_draw K) [] E0 (tCons (tVar 0) (tCons (tC (.int 3)) tNil))) (tC (.int 0)))) (tAsg (tJoin K (tC (.str "")) (tLc (iRng1 (tCons (tOp oAdd (tC (.int 1)) (tCall (sp__law_draw K) [] E0 (tCons (tVar 0) (tCons (tC (.int 6)) tNil)))) tNil)) (gName 6) tYes (tOp rIxS (tC (.str "abcdefghijklmnopqrstuvwxyz")) (tCall (sp__law_draw K) [] E0 (tCons (tVar 0) (tCons (tC (.int 26)) tNil)))) [6])) (gName 5)) tNext)
  (tSeq (tAsg (tOp rCat (tLst (tCons (tVar 5) tNil)) (tLc (iStr (tC (.str "abcdefghijklmnopqrstuvwxyz"))) (gName 8) tYes (tOp oCatS (tSl rSlS (tVar 5) tNoPart (tPart (tC (.int 5)))) (tVar 8)) [8])) (gName 7))
  (tDrop (tBM K "list" rAppend (tVar 3) (tCons (tOp (rIxL K) (tLc (iList K (tVar 7)) (gName 9) (tTest (tOp (rInTL K true) (tVar 9) (tVar 3))) (tVar 9) [9]) (tC (.int 0))) tNil)))))))
  (tRet (tVar 3)))))
section
variable {K : Fg}
theorem rd__law_names {vs : List V} {H : Hp} {Q : VK} {E : XK} (h : sp__law_names K vs H Q E) : t__law_names K { nx := fun _ H' => Q .non H', rt := Q } (start n__law_names vs) H := by
  obtain ⟨W, p, c, n, rfl, rfl, st, n0, n20, k⟩ := h
  show t__law_names K _ [some (.ref p), some (.int n), none, none, none, none, none, none, none, none] W.H
  refine q_asg (ε := pur) (K := K) (x := ownN) (EvR.is (EvN.toR (en_split (by decide +kernel) (by decide +kernel))) own_eq) trivial fun vo W1 g1 ro => ?_
  refine q_asgN (ε := pur) (K := K) (xs := ([] : List Str)) (en_lst ea_nil (by decide)) trivial fun fa vs3 W3 g3' ff3 bf3 ef3 rf3 => ?_
  have g3 := g1.pure.trans g3'.pure
  have mf3 : LMut K W3 fa ([] : List Str) := ⟨bf3, vs3, ef3, rf3⟩
  have ro3 : rep K W3.B vo ownN := rep_s g3' ro
  have st3 := st.g g3
  have ffW : W.H fa = none := was_noneN g1.pure ff3
  have hp := st.dom
  have fap : fa ≠ p := fun z => hp.1 (by rw [← z]; exact ffW)
  have fac : fa ≠ c := fun z => hp.2 (by rw [← z]; exact ffW)
  have fS : fa ∉ (drw p c).S := by simp [drw, fap, fac]
  let S : Option V → Option V → Option V → Option V → Option V → Option V → SS := fun v4 v5 v6 v7 v8 v9 => [some (.ref p), some (.int n), some vo, some (.ref fa), v4, v5, v6, v7, v8, v9]
  show tSeq _ _ _ (S none none none none none none) W3.H
  refine q_for (ε := pur) (K := K) (W := W3) (σ := S none none none none none none) (xs := rng 0 n.toNat) (ei_rng1 (n := n) (ev_var (i := 1) rfl rfl) (by omega) (by omega)) trivial fun W4 g4 =>
    ⟨fun i σ' W' => ∃ (v4 v5 v6 v7 v8 v9 : Option V) (ys : List Str), σ' = S v4 v5 v6 v7 v8 v9 ∧ On W4 W' ∧ Md [p, c] W W' ∧ St W' p c ∧ LMut K W' fa ys ∧ ys.Nodup ∧ (∀ w ∈ ys, IsWord w) ∧ ys.length = i,
      ⟨none, none, none, none, none, none, [], rfl, .refl _, Grow.s (g3.trans g4.pure), st3.g g4.pure, mf3.gr g4.pure, List.nodup_nil, (fun w h => by cases h), rfl⟩, fun i σ' W' ⟨_, _, _, _, _, _, _, _, o, _⟩ => o, ?_, ?_⟩
  · rintro i x vx σ' W5' W5 hi hx ⟨_, v5, v6, v7, v8, v9, ys, rfl, o5', M5', s5', m5', nd, wd, yl⟩ g5 rx
    have o5 := o5'.trans g5.on
    have M5 := M5'.trans (Grow.s g5)
    have s5 := s5'.g g5
    have m5 := m5'.gr g5
    have hi' : i < 20 := by rw [rng_len] at hi; omega
    have ro5 : rep K W5.B vo ownN := rep_on (g4.on.trans o5) ro3
    show tSeq _ _ _ (S (some vx) v5 v6 v7 v8 v9) W5.H
    -- found.append([one for one in [word] + .. if one not in found][0])
    have fin : ∀ {D : Ends} (W8 : Wd) (w : Str) (v6 v7 v8 v9 : Option V), On W4 W8 → Md [p, c] W W8 → St W8 p c → LMut K W8 fa ys → IsWord w →
        (∀ (v7 v8 v9 : Option V) (ys' : List Str) (W9 : Wd), On W4 W9 → Md [p, c] W W9 → St W9 p c → LMut K W9 fa ys' → ys'.Nodup → (∀ w ∈ ys', IsWord w) → ys'.length = i + 1 → D.nx (S (some vx) (some (.str w)) v6 v7 v8 v9) W9.H) →
        tSeq (tAsg (tOp rCat (tLst (tCons (tVar 5) tNil)) (tLc (iStr (tC (.str "abcdefghijklmnopqrstuvwxyz"))) (gName 8) tYes (tOp oCatS (tSl rSlS (tVar 5) tNoPart (tPart (tC (.int 5)))) (tVar 8)) [8])) (gName 7))
          (tDrop (tBM K "list" rAppend (tVar 3) (tCons (tOp (rIxL K) (tLc (iList K (tVar 7)) (gName 9) (tTest (tOp (rInTL K true) (tVar 9) (tVar 3))) (tVar 9) [9]) (tC (.int 0))) tNil))) D (S (some vx) (some (.str w)) v6 v7 v8 v9) W8.H := fun {D} W8 w v6 v7 v8 v9 o8 M8 s8 m8 hw kD => by
      have eS : ∀ {i : Str} {W : Wd}, rep K W.B (V.str i) i := rfl
      have hlw : w.length ≤ 100000 := by have := hw.hi; omega
      refine q_asg (ε := pur) (K := K) (x := candsN w) (ev_op (ev_lst (ea_cons (ev_var (i := 5) rfl eS) ea_nil) (by show 1 ≤ 100000; decide)) (ev_lcN (K := K) (j := 8) (f := fun s => cutS w none (some 5) ++ s) (ei_str (x := abcT) ev_str).i (fun x v W' hx g r => ev_op (ev_slS (ev_var (i := 5) rfl eS) eo_none (eo_some (K := K) ev_int) hlw) (ev_var (i := 8) rfl r) (ro_catS (by
          rw [signs_abc] at hx
          obtain ⟨kk, _, rfl⟩ := List.mem_map.mp hx
          have h1 : (cutS w none (some 5)).length ≤ 5 := by
            show (cutS w none (some 5)).cps.size ≤ 5
            rw [← Array.length_toList, cut5_list, List.length_take]
            exact Nat.min_le_left _ _
          have h2 : (⟨#[97 + kk]⟩ : Str).length = 1 := rfl
          omega))) (by rw [signs_abc, List.length_map, List.length_range]; decide)) (ro_cat (by rw [signs_abc]; simp))) trivial fun v7 W9 g9 r7 => ?_
      have m9 := m8.gr g9.pure
      obtain ⟨x0, hx0⟩ := cands_new (w := w) (ys := ys) (by omega)
      have hx1 : x0 ∈ (candsN w).filter fun x => !decide (x ∈ ys) := List.mem_of_getElem? hx0
      obtain ⟨hx2, hx3⟩ := List.mem_filter.mp hx1
      have hx4 : x0 ∉ ys := by simpa using hx3
      show tDrop _ D (S (some vx) (some (.str w)) v6 (some v7) v8 v9) W9.H
      refine s_append (σ := S (some vx) (some (.str w)) v6 (some v7) v8 v9) (i := 3) (y := x0) rfl m9 (ev_op (K := K) (x := ((candsN w).filter fun x => !decide (x ∈ ys)).map id) (y := (0 : Int)) (ev_lcNt (K := K) (j := 9) (p := fun x => !decide (x ∈ ys)) (f := id) (ei_list (ev_var (i := 7) rfl r7)).i (fun x v W' hx g r => by
          rw [show v = V.str x from r]
          exact et_ninM (i := 9) (j := 3) rfl rfl (m9.gr g.pure)) (fun x v W' hx hp g r => ev_var (i := 9) rfl r) (by rw [cands_len]; decide)) ev_int (ro_ixL (by rw [List.map_id]; exact atI_nat (j := 0) hx0))) (by omega) fun W10 g10 o10 m10 => ?_
      have M10 : Md [p, c] W W10 := Md.fresh (M8.trans (Grow.s g9.pure)) (g10.mono (by simp)) ffW
      refine kD (some v7) v8 v9 (ys ++ [x0]) W10 ((o8.trans g9.on).trans o10) M10 ((s8.g g9.pure).off g10 (by simp [fap.symm]) (by simp [fac.symm])) m10 ?_ (fun z hz => ?_) (by simp [yl])
      · rw [List.nodup_append]
        exact ⟨nd, by simp, fun a ha b hb e => hx4 (by rw [← List.mem_singleton.mp hb, ← e]; exact ha)⟩
      · rcases List.mem_append.mp hz with hz | hz
        · exact wd z hz
        · rw [List.mem_singleton.mp hz]
          exact cands_word hw x0 hx2
    refine q_asgP (ε := drw p c) (ex_pick (K := K) (i := 0) (P := fun s => s ∈ ownN) (R := fun xs => xs = ownN) rfl (ex_of (ev_var (i := 2) rfl ro5) rfl) fun xs h => by subst h; exact ⟨by decide +kernel, by show 12 < 100000; decide, fun _ h => h⟩) s5 fun w5 W6 g6 ⟨w, hw, rw5⟩ => ?_
    rw [show w5 = V.str w from rw5]
    have hw := own_words w hw
    have o6 := o5.trans g6.on
    have M6 := M5.trans g6.md
    have s6 : St W6 p c := g6.i
    have m6 := m5.g g6.md fS
    have kD : ∀ {w : Str} {v6 : Option V} (v7 v8 v9 : Option V) (ys' : List Str) (W9 : Wd), On W4 W9 → Md [p, c] W W9 → St W9 p c → LMut K W9 fa ys' → ys'.Nodup → (∀ w ∈ ys', IsWord w) → ys'.length = i + 1 →
      ∃ W' : Wd, W'.H = W9.H ∧ ∃ (a4 a5 a6 a7 a8 a9 : Option V) (ys : List Str), S (some vx) (some (.str w)) v6 v7 v8 v9 = S a4 a5 a6 a7 a8 a9 ∧ On W4 W' ∧ Md [p, c] W W' ∧ St W' p c ∧ LMut K W' fa ys ∧ ys.Nodup ∧ (∀ w ∈ ys, IsWord w) ∧ ys.length = i + 1 :=
      fun v7 v8 v9 ys' W9 o9 M9 s9 m9 nd9 wd9 yl9 => ⟨W9, rfl, _, _, _, _, _, _, ys', rfl, o9, M9, s9, m9, nd9, wd9, yl9⟩
    show tSeq _ _ _ (S (some vx) (some (.str w)) v6 v7 v8 v9) W6.H
    refine q_whenQ (ε := drw p c) (W := W6) (σ := S (some vx) (some (.str w)) v6 v7 v8 v9) (etq (ep_gtD (P := fun n => 0 ≤ n ∧ n < 3) (ev_draw (K := K) (i := 0) rfl (ev_int (n := 3)) (by decide) (by decide)))) s6 (fun W7 g7 => ?_) (fun W7 g7 => ?_)
    · have joined : EvP (drw p c) (tJoin K (tC (.str "")) (tLc (iRng1 (tCons (tOp oAdd (tC (.int 1)) (tCall (sp__law_draw K) [] E0 (tCons (tVar 0) (tCons (tC (.int 6)) tNil)))) tNil)) (gName 6) tYes (tOp rIxS (tC (.str "abcdefghijklmnopqrstuvwxyz")) (tCall (sp__law_draw K) [] E0 (tCons (tVar 0) (tCons (tC (.int 26)) tNil)))) [6]))
          (S (some vx) (some (.str w)) v6 v7 v8 v9) W7 (fun v _ => ∃ w, v = .str w ∧ IsWord w) := by
        refine ep_join (fun W1 g1 Q q => (ep_lcQ (α := Int) (β := Str) (R := IsSign) (ei_rngQ (P := fun n => 1 ≤ n ∧ n ≤ 6) (fun W1 g1 Q q => ep_add (m := 1) (P := fun n => 0 ≤ n ∧ n < 6) (ev_draw (K := K) (i := 0) rfl (ev_int (n := 6)) (by decide) (by decide)) W1 g1 Q fun v W2 g2 ⟨n, e, h⟩ => q v W2 g2 ⟨1 + n, e, by omega, by omega⟩) (fun n h => by omega)) (fun xs ⟨n, h, e⟩ => by rw [e, rng_len]; omega) (fun x v W' g rx W1 g1 Q q => ?_)) W1 g1 Q fun v W2 g2 ⟨xs', ys', ⟨n, h, e⟩, hl, hs, hr⟩ => q v W2 g2 ⟨ys', by rw [hl, e, rng_len]; omega, by rw [hl, e, rng_len]; omega, hs, hr⟩)
        refine ev_draw (K := K) (σ := (wipe (S (some vx) (some (.str w)) v6 v7 v8 v9) [6]).set 6 (some v)) (i := 0) (p := p) (c := c) rfl (ev_int (n := 26)) (by decide) (by decide) W1 g1 _ fun u W2 g2 ⟨z, e, z0, z1⟩ => ?_
        obtain ⟨zz, rfl⟩ : ∃ zz : Nat, z = zz := ⟨z.toNat, by omega⟩
        exact ⟨abcT, zz, 97 + zz, rfl, e, by decide +kernel, atI_nat (al_at zz (by omega)), q _ W2 g2 ⟨⟨#[97 + zz]⟩, ⟨97 + zz, by omega, by omega, rfl⟩, rfl⟩⟩
      refine s_asgP (ε := drw p c) joined g7.i fun v W9 g9 ⟨w', e9, hw'⟩ => ?_
      subst e9
      have g79 := g7.trans g9
      exact fin W9 w' v6 v7 v8 v9 (o6.trans g79.on) (M6.trans g79.md) g79.i (m6.g g79.md fS) hw' kD
    · exact fin W7 w v6 v7 v8 v9 (o6.trans g7.on) (M6.trans g7.md) g7.i (m6.g g7.md fS) hw kD
  · rintro σ' W5 ⟨v4, v5, v6, v7, v8, v9, ys, rfl, o5, M5, s5, mf5, nd, wd, yl⟩
    obtain ⟨o, ho, rf, ex, kf⟩ := mf5.fix
    rw [rng_len] at yl
    refine ⟨_, rfl, ?_⟩
    exact k (.ref fa) ys (W5.fix fa o ho) (kf W [p, c] M5 ffW) (s5.keep rfl rfl (upd_ne fap.symm) (upd_ne fac.symm)) rf nd wd (by omega)
end
end B
/-! draws: a number below a drawn one, a for over a drawn range, a list's copy that may change -/
namespace B
open PySem L2
open PySem.W (Tup T3 T4 Datum DatumOrd)
open Evl (Ex)
section
variable {K : Fg} {p c : Addr} {W : Wd} {σ : SS} {te : TE} {i : Nat} {P : Int → Prop} {ε : Ef}
theorem ev_drawX (h1 : σ[i]? = some (some (.ref p))) (hn : EvX (drw p c) K te σ W P) (hb : ∀ n, P n → 0 < n ∧ n < 1073741824) : EvX (drw p c) K (tCall (sp__law_draw K) [] E0 (tCons (tVar i) (tCons te tNil))) σ W (fun r : Int => ∃ n, P n ∧ 0 ≤ r ∧ r < n) := fun W1 g1 Q k =>
  ⟨_, h1, hn W1 g1 _ fun u W2 g2 ⟨n, pn, r⟩ => ⟨W2, p, c, n, rfl, by rw [show u = _ from r]; rfl, (show St W2 p c from g2.i), (hb n pn).1, (hb n pn).2, fun r W3 a b g s => k _ W3 (g2.trans ⟨g, s⟩) ⟨r, ⟨n, pn, a, b⟩, rfl⟩⟩⟩
theorem ex_draw {n : Int} (h1 : σ[i]? = some (some (.ref p))) (hn : EvR (drw p c) K te σ W n) (h0 : 0 < n) (h2 : n < 1073741824) : EvX (drw p c) K (tCall (sp__law_draw K) [] E0 (tCons (tVar i) (tCons te tNil))) σ W (fun r : Int => 0 ≤ r ∧ r < n) :=
  fun W1 g1 Q k => ev_draw h1 hn h0 h2 W1 g1 Q fun v W2 g2 ⟨r, e, a, b⟩ => k v W2 g2 ⟨r, ⟨a, b⟩, e⟩
/-- m + a drawn number -/
theorem ex_addD {m : Int} (h : EvX ε K te σ W P) : EvX ε K (tOp oAdd (tC (.int m)) te) σ W (fun r : Int => ∃ n, P n ∧ r = m + n) := ex_op (P := fun x : Int => x = m) (R := P) (ex_of ev_int rfl) h fun x y hx hy => ⟨x + y, ⟨y, hy, by rw [hx]⟩, ro_I0⟩
/-- for i in range(a drawn number) -/
theorem s_forD {D : Ends} {tu : TS} {j : Nat} (h : EvX ε K te σ W P) (hb : ∀ n, P n → -1000000 ≤ n ∧ n ≤ 1000000) (s : ε.I W)
    (k : ∀ n W2, P n → Stp ε W W2 → ∃ Pv : Nat → SS → Wd → Prop, Pv 0 σ W2 ∧ (∀ i σ' W', Pv i σ' W' → On W2 W') ∧
      (∀ (i : Nat) σ' W', (i : Int) < n → Pv i σ' W' → tu { D with nx := fun σ H => ∃ W, W.H = H ∧ Pv (i + 1) σ W, ct := fun σ H => ∃ W, W.H = H ∧ Pv (i + 1) σ W, bk := D.nx } (σ'.set j (some (.int (i : Int)))) W'.H) ∧
      (∀ σ' W', Pv n.toNat σ' W' → D.nx σ' W'.H)) : tFor (iRng1 (tCons te tNil)) (gName j) tu D σ W.H :=
  h W (.start s) _ fun v W2 g2 ⟨n, pn, r⟩ => by
    obtain ⟨Pv, h0, hon, hs, hd⟩ := k n W2 pn g2
    have := hb n pn
    exact ⟨n, by rw [show v = _ from r], by omega, by omega, for_rng (W2 := W2) Pv h0 hon hs hd⟩
theorem q_forD {D : Ends} {tu tz : TS} {j : Nat} (h : EvX ε K te σ W P) (hb : ∀ n, P n → -1000000 ≤ n ∧ n ≤ 1000000) (s : ε.I W)
    (k : ∀ n W2, P n → Stp ε W W2 → ∃ Pv : Nat → SS → Wd → Prop, Pv 0 σ W2 ∧ (∀ i σ' W', Pv i σ' W' → On W2 W') ∧
      (∀ (i : Nat) σ' W', (i : Int) < n → Pv i σ' W' → tu { D with nx := fun σ H => ∃ W, W.H = H ∧ Pv (i + 1) σ W, ct := fun σ H => ∃ W, W.H = H ∧ Pv (i + 1) σ W, bk := tz D } (σ'.set j (some (.int (i : Int)))) W'.H) ∧
      (∀ σ' W', Pv n.toNat σ' W' → tz D σ' W'.H)) : tSeq (tFor (iRng1 (tCons te tNil)) (gName j) tu) tz D σ W.H := s_forD (D := { D with nx := tz D }) h hb s k
/-- list(xs), a list that may change -/
theorem en_listO {α : Type} [Py α] {xs : List α} (h : EvR ε K te σ W xs) : EvN ε K (tCB (rListO K) (tCons te tNil)) σ W xs := fun W1 g1 Q k => h W1 g1 _ fun v W2 g2 ⟨a, vs, e, hb, r⟩ =>
  ⟨a, vs, by rw [e], .inl (SqL.of (W2.sub.el hb)), fun p hp => k p vs (W2.put p _ (W2.free hp)) (g2.and (W2.grow_put hp)) (was_none g2.md hp) (W2.free hp) upd_same r⟩
theorem ev_lenM {α : Type} [Py α] {d : Addr} {xs : List α} {i : Nat} (hd : σ[i]? = some (some (.ref d))) (m : LMut K W d xs) (hS : d ∉ ε.S) : EvR ε K (tCB (rLen K) (tCons (tVar i) tNil)) σ W (xs.length : Int) := fun W1 g1 Q k => by
  obtain ⟨vs, e, r⟩ := (m.g g1.md hS).ex
  exact ⟨_, hd, d, vs, rfl, .inl (SqL.of e), by rw [Reps.len r]; exact k _ W1 g1.rf rfl⟩
theorem seqIx {r : Int} {n : Nat} (h0 : 0 ≤ r) (h1 : r < n) : PySem.seqIndex? r n = some r.toNat := by
  have hn : ¬ r < 0 := by omega
  simp [PySem.seqIndex?, hn, h0, h1]
end
theorem erase_perm {α : Type} : ∀ (xs : List α) (k : Nat) (h : k < xs.length), (xs[k] :: xs.eraseIdx k).Perm xs
  | x :: xs, 0, _ => .refl _
  | x :: xs, k + 1, h => by
    have h' : k < xs.length := by simpa using h
    exact (List.Perm.swap x xs[k] (xs.eraseIdx k)).trans ((erase_perm xs k h').cons x)
theorem reps_erase {α : Type} [Py α] {K : Fg} {H : Hp} : ∀ {vs : List V} {xs : List α} (k : Nat), Reps K H vs xs → Reps K H (vs.eraseIdx k) (xs.eraseIdx k)
  | _, _, k, .nil => by simpa using (.nil : Reps K H [] ([] : List α))
  | _, _, 0, .cons a b => b
  | _, _, k + 1, .cons a b => .cons a (reps_erase k b)
/-- x = xs.pop(a drawn place) -/
theorem q_popD {α : Type} [Py α] {K : Fg} {p c : Addr} {W : Wd} {σ : SS} {te : TE} {i j : Nat} {D : Ends} {tz : TS} {d : Addr} {xs : List α} (hd : σ[i]? = some (some (.ref d))) (m : LMut K W d xs) (hS : d ∉ (drw p c).S) (st : St W p c) (h : EvX (drw p c) K te σ W (fun r : Int => 0 ≤ r ∧ r < xs.length)) (hl : xs.length < 100000)
    (k : ∀ (n : Nat) (hn : n < xs.length) v W', Md [d, p, c] W W' → St W' p c → rep K W'.B v xs[n] → LMut K W' d (xs.eraseIdx n) → tz D (σ.set j (some v)) W'.H) : tSeq (tAsg (tBM K "list" rPopAt (tVar i) (tCons te tNil)) (gName j)) tz D σ W.H := by
  obtain ⟨us0, eus0, _⟩ := m.ex
  refine ⟨_, hd, .inl ⟨rfl, us0, SqL.of eus0⟩, h W (.start st) _ fun v W1 g1 ⟨r, ⟨r0, r1⟩, e⟩ => ?_⟩
  have m1 := m.g g1.md hS
  obtain ⟨us, eus, rus⟩ := m1.ex
  have ul := Reps.len rus
  obtain ⟨n, rfl⟩ : ∃ n : Nat, r = n := ⟨r.toNat, by omega⟩
  have hn : n < xs.length := by omega
  obtain ⟨y, hy, ry⟩ := Reps.get' rus (List.getElem?_eq_getElem hn)
  refine ⟨d, us, n, n, y, rfl, by rw [show v = _ from e], eus, by omega, by omega, by rw [seqIx (by omega) (by omega)]; simp, hy, ?_⟩
  have dpc : d ≠ p ∧ d ≠ c := by simpa [drw] using hS
  have M : Md [d, p, c] W (W1.put d (.lst (us.eraseIdx n)) m1.b) := (g1.md.mono (fun x hx => List.mem_cons_of_mem _ hx)).trans ((md_put m1.b).mono (by simp))
  exact k n hn y (W1.put d (.lst (us.eraseIdx n)) m1.b) M ((show St W1 p c from g1.i).off (md_put m1.b) (by simp; exact fun z => dpc.1 z.symm) (by simp; exact fun z => dpc.2 z.symm)) ry ⟨m1.b, _, upd_same, reps_erase n rus⟩
end B
/-! B: zip of a list and a tuple -/
namespace B
open PySem L2 PySem.Spec PyProof.Rows
open PySem.W (Tup)
def ItzLT (K : Fg) (a b : Addr) (n m : Nat) : It :=
  ⟨fun i H => i < n ∧ i < m ∧ ∃ xs ys : List V, SqL K H a xs ∧ SqT K H b ys ∧ xs.length = n ∧ ys.length = m,
    fun i H v H' => ∃ T x y, v = .ref T ∧ H T = none ∧ H' = upd H T (.tup [x, y]) ∧ (∀ xs, SqL K H a xs → xs[i]? = some x) ∧ ∀ ys, SqT K H b ys → ys[i]? = some y,
    fun i H => (n ≤ i ∨ m ≤ i) ∧ ∃ xs ys : List V, SqL K H a xs ∧ SqT K H b ys ∧ xs.length = n ∧ ys.length = m⟩
def ZlTn (a b z TI TO i1 i2 : Addr) (n m i : Nat) (h : Heap) : Prop := IsZip h z TI TO .none ∧ IsPair h TI (.ref i1) (.ref i2) ∧ (∃ x y, IsPair h TO x y) ∧ h.IsListIter i1 a i ∧ h.IsTupleIter i2 b i ∧ i ≤ n ∧ i ≤ m
theorem li_ne {h : Heap} {i1 a : Addr} {i : Nat} {its : Array Value} (h2 : h.IsListIter i1 a i) (p : h.IsList a its) : a ≠ i1 := fun e => by
  obtain ⟨o, ho, hcls, hdat⟩ := id h2
  obtain ⟨o', ho', hc', _⟩ := p
  rw [e, ho] at ho'
  cases ho'
  rw [hcls] at hc'
  have := Value.type.inj hc'
  revert this
  decide
theorem turn_zipLT {P : Program} {w : World} {K : Fg} {elts : List Expr} {kk : Nat} {tpos : Pos} {a b z TI TO i1 i2 : Addr} {n m : Nat} (D : ZipSep2 z TI TO i1 i2 [i1, a] [i2, b]) :
    Turn P w K (.Tuple elts kk tpos) (ItzLT K a b n m) [z, TI, TO, i1, i2] z (ZlTn a b z TI TO i1 i2 n m) where
  mem := by simp
  obj := fun i h st c hc => by
    obtain ⟨hz, hTI, ⟨x, y, hTO⟩, ⟨o1, e1, _, d1⟩, ⟨o2, e2, _, d2⟩, _, _⟩ := st
    simp only [List.mem_cons, List.not_mem_nil, or_false] at hc
    rcases hc with q | q | q | q | q <;> rw [q]
    · exact ⟨_, hz, fun v q => nomatch q⟩
    · exact ⟨_, hTI, fun v q => nomatch q⟩
    · exact ⟨_, hTO, fun v q => nomatch q⟩
    · exact ⟨o1, e1, fun v q => by rw [d1] at q; cases q⟩
    · exact ⟨o2, e2, fun v q => by rw [d2] at q; cases q⟩
  keep := fun i h h' st k => by
    obtain ⟨hz, hTI, ⟨x, y, hTO⟩, h1, h2, l1, l2⟩ := st
    exact ⟨k z (by simp) _ hz, k TI (by simp) _ hTI, ⟨x, y, k TO (by simp) _ hTO⟩, h1.at fun o q => k i1 (by simp) o q, h2.at fun o q => k i2 (by simp) o q, l1, l2⟩
  item := by
    intro X hP hw hK hc i pins s σ H E I hf st hg
    subst hP hw hK
    obtain ⟨hz, hTI, ⟨x0, y0, hTO⟩, h1, h2, l1, l2⟩ := st
    obtain ⟨g1, g2, xs, ys, hqx, hqy, hn, hm⟩ := hg
    obtain ⟨its1, rv1, p1, _⟩ := I.list hqx
    obtain ⟨its, rv, p, _⟩ := I.tuple hqy
    have hl1 : its1.length = n := by rw [← rv1.length]; exact hn
    have hl : its.length = m := by rw [← rv.length]; exact hm
    have hd : X.A.in1.handled = none := I.ok.hd hc
    refine wpAny_pyNext_zipD2_item D (Draws.list hd i1 a (li_ne h1 p1.isList) its1.toArray) (Draws.tuple hd i2 b (ti_ne h2 p) its.toArray) hz hTI hTO ⟨h1, p1.isList⟩ ⟨h2, p⟩ (by simpa [hl1] using g1) (by simpa [hl] using g2) fun u1 u2 h' tk y1 y2 b1 b2 d1 d2 b5 b6 hk => ?_
    have hzl : z < s.heap.objs.size := Heap.lt_size hz
    obtain ⟨x, hx, rx⟩ : ∃ x, xs[i]? = some x ∧ RelV x u1 := by
      have e2 : its1[i]? = some u1 := by simpa using y1
      have hx : xs[i]? = some (xs[i]'(by omega)) := List.getElem?_eq_getElem (by omega)
      obtain ⟨u, e3, r⟩ := rv1.get hx
      rw [e2] at e3
      cases e3
      exact ⟨_, hx, r⟩
    obtain ⟨y, hy, ry⟩ : ∃ y, ys[i]? = some y ∧ RelV y u2 := by
      have e2 : its[i]? = some u2 := by simpa using y2
      have hy : ys[i]? = some (ys[i]'(by omega)) := List.getElem?_eq_getElem (by omega)
      obtain ⟨u, e3, r⟩ := rv.get hy
      rw [e2] at e3
      cases e3
      exact ⟨_, hy, r⟩
    refine ⟨_, rfl, wpAny_letOwnedTupleGo_zip (s := { s with heap := h', toks := tk }) b1 fun h'' z'' sb => ?_⟩
    have hT2 : h''.get? s.heap.objs.size = some { cls := .type "tuple", data := .seq #[u1, u2] } := (sb.2 _ (Nat.ne_of_gt hzl)).trans b5
    have new : ObjOk X.prog X.w (upd H s.heap.objs.size (.tup [x, y])) h'' s.heap.objs.size (.tup [x, y]) :=
      ⟨by show 2 ≤ sizeLine; decide, [u1, u2], .cons rx (.cons ry .nil), ⟨_, hT2, rfl, _, rfl⟩⟩
    have I1 : Inv X pins σ (upd H s.heap.objs.size (.tup [x, y])) { s with heap := h'', toks := tk } :=
      I.turnedNew (t' := tk) (ch := [z, TI, TO, i1, i2]) (fun c o hb q => (sb.2 c (fun q' => hb (by simp [q']))).trans (hk c o (fun q' => hb (by simp [q'])) (fun q' => hb (by simp [q'])) (fun q' => hb (by simp [q'])) (fun q' => hb (by simp [q'])) q)) hf (Nat.le_refl _) new
    refine ⟨.ref s.heap.objs.size, _, I1, rfl, ⟨_, x, y, rfl, I.hok.fresh (Nat.le_refl _), rfl, fun l hl => by rw [I.list_inj hl hqx]; exact hx, fun l hl => by rw [I.tuple_inj hl hqy]; exact hy⟩, ⟨z'', ?_, ⟨u1, u2, ?_⟩, ?_, ?_, by omega, by omega⟩, fun c hcm => ?_⟩
    · exact (sb.2 _ D.TIz).trans (hk _ _ D.TIz D.TITO D.TIi1 D.TIi2 hTI)
    · exact (sb.2 _ D.TOz).trans b2
    · exact d1.1.at fun o q => (sb.2 _ D.zi1.symm).trans q
    · exact d2.1.at fun o q => (sb.2 _ D.zi2.symm).trans q
    · have hlt : c < s.heap.objs.size := by
        simp only [List.mem_cons, List.not_mem_nil, or_false] at hcm
        rcases hcm with q | q | q | q | q <;> rw [q]
        · exact hzl
        · exact Heap.lt_size hTI
        · exact Heap.lt_size hTO
        · obtain ⟨_, e1, _⟩ := h1; exact Heap.lt_size e1
        · obtain ⟨_, e2, _⟩ := h2; exact Heap.lt_size e2
      rw [upd_ne (Nat.ne_of_lt hlt)]
      exact (hf c hcm).1
  done := by
    intro X hP hw hK hc i pins s σ H E I hf st hg
    subst hP hw hK
    obtain ⟨hz, hTI, ⟨x0, y0, hTO⟩, h1, h2, l1, l2⟩ := st
    obtain ⟨hend, xs, ys, hqx, hqy, hn, hm⟩ := hg
    obtain ⟨its1, rv1, p1, _⟩ := I.list hqx
    obtain ⟨its, rv, p, _⟩ := I.tuple hqy
    have hl1 : its1.length = n := by rw [← rv1.length]; exact hn
    have hl : its.length = m := by rw [← rv.length]; exact hm
    have hd : X.A.in1.handled = none := I.ok.hd hc
    have hs1 : its1.toArray.size = n := by simpa using hl1
    have hs : its.toArray.size = m := by simpa using hl
    exact wpAny_pyNext_zipD2_end D (Draws.list hd i1 a (li_ne h1 p1.isList) its1.toArray) (Draws.tuple hd i2 b (ti_ne h2 p) its.toArray) hz hTI hTO ⟨h1, p1.isList⟩ ⟨h2, p⟩ (by omega) (by omega) (by omega) fun h' tk hk => ⟨rfl, I.turnedL (t' := tk) (ch := [z, TI, TO, i1, i2]) (fun c o hb q =>
      hk c o (fun q' => hb (by simp [q'])) (fun q' => hb (by simp [q'])) (fun q' => hb (by simp [q'])) (fun q' => hb (by simp [q'])) q) hf⟩
  self := fun A i s Q E st h => wpAny_pyIter_zip st.1 h
theorem zsep2 {n a b : Nat} (ha : a < n) (h : b < n) : ZipSep2 (n + 4) (n + 2) (n + 3) n (n + 1) [n, a] [n + 1, b] where
  TIz := Nat.ne_of_lt (by omega)
  TOz := Nat.ne_of_lt (by omega)
  TITO := Nat.ne_of_lt (by omega)
  TIi1 := Nat.ne_of_gt (by omega)
  mem1 := List.mem_cons_self
  zf1 := fun q => by
    simp only [List.mem_cons, List.not_mem_nil, or_false] at q
    rcases q with q | q
    · exact absurd q (Nat.ne_of_gt (by omega))
    · exact absurd q (Nat.ne_of_gt (by omega))
  Tf1 := fun q => by
    simp only [List.mem_cons, List.not_mem_nil, or_false] at q
    rcases q with q | q
    · exact absurd q (Nat.ne_of_gt (by omega))
    · exact absurd q (Nat.ne_of_gt (by omega))
  TIi2 := Nat.ne_of_gt (by omega)
  mem2 := List.mem_cons_self
  zf2 := fun q => by
    simp only [List.mem_cons, List.not_mem_nil, or_false] at q
    rcases q with q | q
    · exact absurd q (Nat.ne_of_gt (by omega))
    · exact absurd q (Nat.ne_of_gt (by omega))
  Tf2 := fun q => by
    simp only [List.mem_cons, List.not_mem_nil, or_false] at q
    rcases q with q | q
    · exact absurd q (Nat.ne_of_gt (by omega))
    · exact absurd q (Nat.ne_of_gt (by omega))
  sep1_2 := fun q => by
    simp only [List.mem_cons, List.not_mem_nil, or_false] at q
    rcases q with q | q
    · exact absurd q (Nat.ne_of_lt (by omega))
    · exact absurd q (Nat.ne_of_gt (by omega))
  sep2_1 := fun q => by
    simp only [List.mem_cons, List.not_mem_nil, or_false] at q
    rcases q with q | q
    · exact absurd q (Nat.ne_of_gt (by omega))
    · exact absurd q (Nat.ne_of_gt (by omega))
def iZipLT (K : Fg) (ta : TA) : TI := fun σ H R => ta σ H fun vs H1 => ∃ a b xs ys, vs = [.ref a, .ref b] ∧ SqL K H1 a xs ∧ SqT K H1 b ys ∧ R (ItzLT K a b xs.length ys.length) H1
theorem pi_zipLT {X : Cx} {e e2 : Expr} {ta : TA} {p pos tpos : Pos} {elts : List Expr} {kk : Nat} (hg : Gl X "zip") (hm : X.mg "zip" = none) (ha : PA X [e, e2] ta)
    (hs : starEach [e, e2] X.env = (false, eval e X.env) :: starEach [e2] X.env := by rfl) (hpl : (backTo pos (starEach [e2] X.env)).any (·.1) = false := by rfl) :
    PI X (.Tuple elts kk tpos) (.Call (.Name "zip" p) [e, e2] [] pos) (iZipLT X.K ta) := by
  refine ⟨fun pins s σ H R I h => ?_⟩
  refine Call_ (ld_blt I hg hm PyProof.Rows.boot_zip (PyProof.Rows.callWith_type1 (thn (ha.run pos pins s σ H _ I h) fun us s1 ⟨vs, H1, I1, r1, q1⟩ => ?_) hs hpl))
  obtain ⟨a, b, xs, ys, ex, hqx, hqy, q⟩ := q1
  subst ex
  cases r1 with
  | cons r rr =>
    cases rr with
    | cons r' rr =>
      cases rr
      cases r
      cases r'
      obtain ⟨its1, rv1, p1, _⟩ := I1.list hqx
      obtain ⟨its, rv, p, _⟩ := I1.tuple hqy
      have la : a < s1.heap.objs.size := p1.lt
      have lb : b < s1.heap.objs.size := by obtain ⟨o, ho, _⟩ := id p; exact Heap.lt_size ho
      refine zip_begins2 (begins_list a its1.toArray) (begins_tuple b its.toArray) p1.isList p fun h' hz hTI hTO g1 g2 hsz hk => wpAny_pyIter_zip hz ?_
      have I2 : Inv X pins σ H1 { s1 with heap := h' } := I1.kept (t' := s1.toks) hk
      have fresh5 : ∀ c, c ∈ [s1.heap.objs.size + 4, s1.heap.objs.size + 2, s1.heap.objs.size + 3, s1.heap.objs.size, s1.heap.objs.size + 1] → FpOk X pins H1 c := fun c hcm => by
        have hle : s1.heap.objs.size ≤ c := by
          simp only [List.mem_cons, List.not_mem_nil, or_false] at hcm
          omega
        exact I1.fpOk hle (I1.hok.fresh hle)
      exact ⟨s1.heap.objs.size + 4, [s1.heap.objs.size + 4, s1.heap.objs.size + 2, s1.heap.objs.size + 3, s1.heap.objs.size, s1.heap.objs.size + 1], _, _, H1, rfl, I2, turn_zipLT (i1 := s1.heap.objs.size) (i2 := s1.heap.objs.size + 1) (TI := s1.heap.objs.size + 2) (TO := s1.heap.objs.size + 3) (zsep2 la lb), ⟨hz, hTI, ⟨_, _, hTO⟩, ⟨_, g1, rfl, rfl⟩, ⟨_, g2, rfl, rfl⟩, Nat.zero_le _, Nat.zero_le _⟩, fresh5, q⟩
theorem ei_zipLT {α β : Type} [Py α] [Py β] {K : Fg} {W : Wd} {σ : SS} {ε : Ef} {ta tb : TE} {xs : List α} {ys : Tup β} (ha : EvR ε K ta σ W xs) (hb : EvR ε K tb σ W ys) : EvJ ε K (iZipLT K (tCons ta (tCons tb tNil))) σ W (xs.zip ys.items) := fun W1 g1 R k => ha W1 g1 _ fun v W2 g2 r1 => hb W2 (g1.trans g2) _ fun u W3 g3 r2 => by
  obtain ⟨a, vs, e, s, r⟩ := rep_s g3 r1
  obtain ⟨b, us, e', s', r'⟩ := r2
  have l1 := Reps.len r
  have l2 := Reps.len r'
  refine ⟨a, b, vs, us, by rw [e, e'], SqL.of (W3.sub.el s), SqT.of (W3.sub.et s'), k _ W3 (g2.trans g3) ⟨fun i W' o hi => ?_, fun i W' v H'' o hi ⟨T, x, y, e1, hT, e2, e3, e4⟩ => ?_, fun i W' o hi => ?_⟩⟩
  · rw [List.length_zip] at hi
    exact ⟨by omega, by omega, vs, us, SqL.of (W'.sub.el (o.b _ _ s)), SqT.of (W'.sub.et (o.b _ _ s')), rfl, rfl⟩
  · obtain ⟨p, h1, h2⟩ := Reps.get r (e3 vs (SqL.of (W'.sub.el (o.b _ _ s))))
    obtain ⟨q, h3, h4⟩ := Reps.get r' (e4 us (SqT.of (W'.sub.et (o.b _ _ s'))))
    refine ⟨(p, q), W'.add T _, e2.symm, W'.grow_add hT, ?_, T, x, y, e1, upd_same, rep_g (W'.grow_add hT) (rex o.b h2), rep_g (W'.grow_add hT) (rex o.b h4)⟩
    rw [List.getElem?_zip_eq_some]
    exact ⟨h1, h3⟩
  · rw [List.length_zip] at hi
    exact ⟨by omega, vs, us, SqL.of (W'.sub.el (o.b _ _ s)), SqT.of (W'.sub.et (o.b _ _ s')), rfl, rfl⟩
end B
/-! what lots tell of what is lost, plainly -/
namespace B
open PySem L2
def addLots (l t : Lots) : Lots := l.foldl (fun t q => addLot t q.1 q.2) t
section
variable {κ : Type} [DecidableEq κ]
/-- how much at k -/
def at0 (kv : List (κ × Int)) (k : κ) : Int := (klook kv k).getD 0
theorem at0_nil (k : κ) : at0 ([] : List (κ × Int)) k = 0 := rfl
theorem at0_cons (q : κ × Int) (kv : List (κ × Int)) (k : κ) : at0 (q :: kv) k = if q.1 = k then q.2 else at0 kv k := by
  unfold at0
  rw [klook_cons]
  split <;> rfl
theorem at0_out {kv : List (κ × Int)} {k : κ} (h : k ∉ kv.map (·.1)) : at0 kv k = 0 := by
  unfold at0
  rw [klook_none.mpr h]; rfl
theorem at0_put (kv : List (κ × Int)) (k j : κ) (v : Int) : at0 (kput kv k v) j = if j = k then v else at0 kv j := by
  unfold at0
  rw [klook_put]
  split <;> rfl
theorem at0_of_mem {kv : List (κ × Int)} (n : (kv.map (·.1)).Nodup) {q : κ × Int} (h : q ∈ kv) : at0 kv q.1 = q.2 := by
  unfold at0
  rw [klook_of_mem (v := q.2) n h]; rfl
theorem at0_perm {kv kv' : List (κ × Int)} (n : (kv.map (·.1)).Nodup) (h : kv'.Perm kv) (k : κ) : at0 kv' k = at0 kv k := by
  have n' : (kv'.map (·.1)).Nodup := (h.map (·.1)).nodup_iff.mpr n
  by_cases hk : k ∈ kv.map (·.1)
  · obtain ⟨q, hq, rfl⟩ := List.mem_map.mp hk
    rw [at0_of_mem n hq, at0_of_mem n' (h.mem_iff.mpr hq)]
  · rw [at0_out hk, at0_out (fun z => hk ((h.map (·.1)).mem_iff.mp z))]
/-- sums -/
def sumF (A : List κ) (f : κ → Int) : Int := (A.map f).sum
theorem sumF_nil (f : κ → Int) : sumF [] f = 0 := rfl
theorem sumF_cons (a : κ) (A : List κ) (f : κ → Int) : sumF (a :: A) f = f a + sumF A f := by unfold sumF; rw [List.map_cons, List.sum_cons]
theorem sumF_add (A : List κ) (f g : κ → Int) : sumF A (fun k => f k + g k) = sumF A f + sumF A g := by
  induction A with
  | nil => rfl
  | cons a A ih => rw [sumF_cons, sumF_cons, sumF_cons, ih]; omega
theorem sumF_congr {A : List κ} {f g : κ → Int} (h : ∀ k ∈ A, f k = g k) : sumF A f = sumF A g := by
  unfold sumF
  rw [List.map_congr_left h]
theorem sumF_perm {A A' : List κ} (h : A.Perm A') (f : κ → Int) : sumF A f = sumF A' f := by
  induction h with
  | nil => rfl
  | cons x _ ih => rw [sumF_cons, sumF_cons, ih]
  | swap x y l => rw [sumF_cons, sumF_cons, sumF_cons, sumF_cons]; omega
  | trans _ _ ih1 ih2 => rw [ih1, ih2]
theorem sumF_ind (A B : List κ) : sumF A (fun k => if k ∈ B then 1 else 0) = ((A.filter fun k => decide (k ∈ B)).length : Int) := by
  induction A with
  | nil => rfl
  | cons a A ih =>
    rw [sumF_cons, ih, List.filter_cons]
    by_cases h : a ∈ B
    · simp [h]; omega
    · simp [h]
theorem sumF_one {A : List κ} (n : A.Nodup) {a : κ} (h : a ∈ A) (c : Int) : sumF A (fun k => if k = a then c else 0) = c := by
  induction A with
  | nil => cases h
  | cons b A ih =>
    rw [List.nodup_cons] at n
    rw [sumF_cons]
    rcases List.mem_cons.mp h with e | h
    · have h0 : ∀ k ∈ A, (if k = a then c else 0) = (0 : Int) := fun k hk => if_neg fun z => n.1 (by rw [← e, ← z]; exact hk)
      have z : sumF A (fun _ => (0 : Int)) = 0 := by
        clear h0 ih h n
        induction A with
        | nil => rfl
        | cons b A ih => rw [sumF_cons, ih]; rfl
      rw [sumF_congr h0, z, if_pos e.symm]; omega
    · have : b ≠ a := fun z => n.1 (z ▸ h)
      rw [if_neg this, ih n.2 h]; omega
theorem sumF_zero (A : List κ) : sumF A (fun _ => (0 : Int)) = 0 := by
  induction A with
  | nil => rfl
  | cons b A ih => rw [sumF_cons, ih]; rfl
/-- over all keys: the values' sum -/
theorem sumF_at0 {A : List κ} (nA : A.Nodup) : ∀ {kv : List (κ × Int)}, (kv.map (·.1)).Nodup → (∀ k ∈ kv.map (·.1), k ∈ A) → sumF A (at0 kv) = (kv.map (·.2)).sum
  | [], _, _ => sumF_zero A
  | q :: kv, n, h => by
    rw [List.map_cons, List.nodup_cons] at n
    have ih := sumF_at0 nA (kv := kv) n.2 fun k hk => h k (by rw [List.map_cons]; exact List.mem_cons_of_mem _ hk)
    have e : sumF A (at0 (q :: kv)) = sumF A (fun k => (if k = q.1 then q.2 else 0) + at0 kv k) := sumF_congr fun k _ => by
      rw [at0_cons]
      by_cases z : q.1 = k
      · subst z
        rw [if_pos rfl, if_pos rfl, at0_out n.1]; omega
      · rw [if_neg z, if_neg (fun y => z y.symm)]; omega
    rw [e, sumF_add, ih, sumF_one nA (h q.1 (by simp)), List.map_cons, List.sum_cons]
end
/-- a sum over lots -/
def wsum (w : Int → Int) (l : Lots) : Int := (l.map fun q => w q.1 * q.2).sum
theorem wsum_nil (w : Int → Int) : wsum w [] = 0 := rfl
theorem wsum_cons (w : Int → Int) (q : Int × Int) (l : Lots) : wsum w (q :: l) = w q.1 * q.2 + wsum w l := by unfold wsum; rw [List.map_cons, List.sum_cons]
theorem wsum_app (w : Int → Int) (l m : Lots) : wsum w (l ++ m) = wsum w l + wsum w m := by
  unfold wsum
  rw [List.map_append, List.sum_append]
theorem wsum_perm (w : Int → Int) {l m : Lots} (h : l.Perm m) : wsum w l = wsum w m := by
  induction h with
  | nil => rfl
  | cons x _ ih => rw [wsum_cons, wsum_cons, ih]
  | swap x y l => rw [wsum_cons, wsum_cons, wsum_cons, wsum_cons]; omega
  | trans _ _ ih1 ih2 => rw [ih1, ih2]
theorem wsum_map_out {w : Int → Int} {z v : Int} : ∀ {l : Lots}, z ∉ l.map (·.1) → wsum w (l.map fun q => if q.1 = z then (q.1, v) else q) = wsum w l
  | [], _ => rfl
  | q :: l, h => by
    rw [List.map_cons, List.mem_cons, not_or] at h
    rw [List.map_cons, wsum_cons, wsum_cons, if_neg (fun y => h.1 y.symm), wsum_map_out h.2]
theorem wsum_put (w : Int → Int) {z v : Int} : ∀ {l : Lots}, (l.map (·.1)).Nodup → wsum w (kput l z v) = wsum w l + w z * (v - at0 l z) := fun {l} n => by
  by_cases h : z ∈ l.map (·.1)
  · have e : kput l z v = l.map (fun q => if q.1 = z then (q.1, v) else q) := by
      unfold kput
      rw [if_pos (by obtain ⟨q, h1, h2⟩ := List.mem_map.mp h; exact List.any_eq_true.mpr ⟨q, h1, by simp [h2]⟩)]
    rw [e]
    clear e
    induction l with
    | nil => cases h
    | cons q l ih =>
      rw [List.map_cons, List.nodup_cons] at n
      rw [List.map_cons, wsum_cons, wsum_cons, at0_cons]
      by_cases c : q.1 = z
      · have hz : z ∉ l.map (·.1) := c ▸ n.1
        rw [if_pos c, if_pos c, wsum_map_out hz, c, Int.mul_sub]
        show w z * v + wsum w l = w z * q.2 + wsum w l + (w z * v - w z * q.2)
        omega
      · have hz : z ∈ l.map (·.1) := by
          rcases List.mem_cons.mp h with y | y
          · exact absurd y.symm c
          · exact y
        rw [if_neg c, if_neg c, ih n.2 hz]; omega
  · rw [kput_new h, wsum_app, wsum_cons, wsum_nil, at0_out h]
    show _ + (w z * v + 0) = _
    rw [Int.sub_zero]; omega
theorem wsum_addLot (w : Int → Int) {l : Lots} (n : (l.map (·.1)).Nodup) (z t : Int) : wsum w (addLot l z t) = wsum w l + w z * t := by
  unfold addLot
  rw [wsum_put w n]
  show _ + w z * (at0 l z + t - at0 l z) = _
  rw [show at0 l z + t - at0 l z = t by omega]
theorem wsum_addLots (w : Int → Int) : ∀ (m : Lots) {l : Lots}, (l.map (·.1)).Nodup → wsum w (addLots m l) = wsum w l + wsum w m
  | [], l, _ => by show wsum w l = wsum w l + wsum w []; rw [wsum_nil]; omega
  | q :: m, l, n => by
    show wsum w (addLots m (addLot l q.1 q.2)) = _
    rw [wsum_addLots w m (show ((addLot l q.1 q.2).map (·.1)).Nodup from kput_keys_nodup n), wsum_addLot w n, wsum_cons]; omega
end B
/-! k08: jars that stand alike, in whatever order -/
namespace B
open PySem L2
open PySem.W (Tup T3 T4 Datum DatumOrd)
section
variable {κ : Type} [DecidableEq κ] {a b : List (κ × Int)}
theorem any_key (a : List (κ × Int)) (k : κ) : (a.any fun q => decide (q.1 = k)) = true ↔ k ∈ a.map (·.1) := by
  rw [List.any_eq_true]
  constructor
  · rintro ⟨q, hq, e⟩
    exact List.mem_map.mpr ⟨q, hq, of_decide_eq_true e⟩
  · intro h
    obtain ⟨q, hq, e⟩ := List.mem_map.mp h
    exact ⟨q, hq, decide_eq_true e⟩
theorem kput_perm (h : a.Perm b) (k : κ) (v : Int) : (kput a k v).Perm (kput b k v) := by
  have hk : k ∈ a.map (·.1) ↔ k ∈ b.map (·.1) := (h.map (·.1)).mem_iff
  unfold kput
  by_cases c : k ∈ a.map (·.1)
  · rw [if_pos ((any_key a k).mpr c), if_pos ((any_key b k).mpr (hk.mp c))]
    exact h.map _
  · rw [if_neg fun z => c ((any_key a k).mp z), if_neg fun z => c (hk.mpr ((any_key b k).mp z))]
    exact h.append (List.Perm.refl _)
theorem klook_perm (n : (a.map (·.1)).Nodup) (h : a.Perm b) (k : κ) : klook a k = klook b k := by
  have n' : (b.map (·.1)).Nodup := (h.map (·.1)).nodup_iff.mp n
  cases e : klook a k with
  | none =>
    have := klook_none.mp e
    exact (klook_none.mpr fun z => this ((h.map (·.1)).mem_iff.mpr z)).symm
  | some v => exact (klook_of_mem n' (h.mem_iff.mp (klook_mem e))).symm
theorem perm_of_klook (n : (a.map (·.1)).Nodup) (n' : (b.map (·.1)).Nodup) (h : ∀ k, klook a k = klook b k) : a.Perm b := by
  have na : a.Nodup := (List.pairwise_map.mp n).imp fun z e => z (by rw [e])
  have nb : b.Nodup := (List.pairwise_map.mp n').imp fun z e => z (by rw [e])
  refine (List.perm_ext_iff_of_nodup na nb).mpr fun q => ⟨fun hq => ?_, fun hq => ?_⟩
  · have := klook_of_mem (v := q.2) n hq
    rw [h] at this
    exact klook_mem this
  · have := klook_of_mem (v := q.2) n' hq
    rw [← h] at this
    exact klook_mem this
end
theorem sum_permI {l m : List Int} (h : l.Perm m) : l.sum = m.sum := by
  induction h with
  | nil => rfl
  | cons x _ ih => rw [List.sum_cons, List.sum_cons, ih]
  | swap x y l => rw [List.sum_cons, List.sum_cons, List.sum_cons, List.sum_cons]; omega
  | trans _ _ h1 h2 => exact h1.trans h2
end B
/-! sums of sets, plainly: what lots can reach, and how they are dealt out -/
namespace B
open PySem L2
abbrev Szs := List (Int × Int)
def reachF (kv : List (Int × Int)) (m : Int) : Int := (kv.map fun q => q.2 * (if m < q.1 then m else q.1)).sum
theorem reach_nil (m : Int) : reachF [] m = 0 := rfl
theorem reach_cons (q : Int × Int) (kv : List (Int × Int)) (m : Int) : reachF (q :: kv) m = q.2 * (if m < q.1 then m else q.1) + reachF kv m := rfl
/-- lots greater than n -/
def overF : List (Int × Int) → Int → Int
  | [], _ => 0
  | q :: kv, n => (if n < q.1 then q.2 else 0) + overF kv n
theorem reach_step (n : Int) (hn : 0 ≤ n) : ∀ kv : List (Int × Int), reachF kv (n + 1) = reachF kv n + overF kv n
  | [] => rfl
  | q :: kv => by
    rw [reach_cons, reach_cons, overF, reach_step n hn kv]
    have e : q.2 * (if n + 1 < q.1 then n + 1 else q.1) = q.2 * (if n < q.1 then n else q.1) + (if n < q.1 then q.2 else 0) := by
      by_cases h1 : n + 1 < q.1
      · rw [if_pos h1, if_pos (by omega), if_pos (by omega), Int.mul_add, Int.mul_one]
      · by_cases h2 : n < q.1
        · have : q.1 = n + 1 := by omega
          rw [if_neg h1, if_pos h2, if_pos h2, this, Int.mul_add, Int.mul_one]
        · rw [if_neg h1, if_neg h2, if_neg h2, Int.add_zero]
    rw [e]
    omega
theorem reach_zero : ∀ kv : List (Int × Int), (∀ q ∈ kv, 1 ≤ q.1) → reachF kv 0 = 0
  | [], _ => rfl
  | q :: kv, h => by
    have h1 := h q List.mem_cons_self
    rw [reach_cons, reach_zero kv fun q hq => h q (List.mem_cons_of_mem _ hq), if_pos (by omega), Int.mul_zero]
    rfl
theorem over_ge : ∀ {kv : List (Int × Int)}, (∀ q ∈ kv, 0 ≤ q.2) → ∀ n, 0 ≤ overF kv n
  | [], _, _ => Int.le_refl _
  | q :: kv, h, n => by
    have h1 := h q List.mem_cons_self
    have ih := over_ge (kv := kv) (fun q hq => h q (List.mem_cons_of_mem _ hq)) n
    rw [overF]
    split <;> omega
theorem over_out : ∀ {kv : List (Int × Int)} {n : Int}, (∀ q ∈ kv, q.1 ≤ n) → overF kv n = 0
  | [], _, _ => rfl
  | q :: kv, n, h => by
    have h1 := h q List.mem_cons_self
    rw [overF, over_out (kv := kv) fun q hq => h q (List.mem_cons_of_mem _ hq), if_neg (by omega)]
    rfl
/-- what of a number is above nought -/
def ps (z : Int) : Int := if 0 < z then z else 0
/-- the first so many of a row -/
def sumN : Nat → (Nat → Int) → Int
  | 0, _ => 0
  | n + 1, f => sumN n f + f n
theorem sumN_le {f g : Nat → Int} : ∀ {n : Nat}, (∀ j, j < n → f j ≤ g j) → sumN n f ≤ sumN n g
  | 0, _ => Int.le_refl _
  | n + 1, h => by
    have ih := sumN_le (n := n) fun j hj => h j (by omega)
    have := h n (by omega)
    show sumN n f + f n ≤ sumN n g + g n
    omega
theorem sumN_add (f g : Nat → Int) : ∀ n : Nat, sumN n (fun j => f j + g j) = sumN n f + sumN n g
  | 0 => rfl
  | n + 1 => by
    show sumN n _ + (f n + g n) = sumN n f + f n + (sumN n g + g n)
    rw [sumN_add f g n]; omega
theorem sumN_mono {f : Nat → Int} : ∀ {n m : Nat}, n ≤ m → (∀ j, j < m → 0 ≤ f j) → sumN n f ≤ sumN m f
  | n, 0, h, _ => by
    have : n = 0 := by omega
    subst this; exact Int.le_refl _
  | n, m + 1, h, p => by
    by_cases c : n = m + 1
    · subst c; exact Int.le_refl _
    · have ih := sumN_mono (n := n) (m := m) (by omega) fun j hj => p j (by omega)
      have := p m (by omega)
      show sumN n f ≤ sumN m f + f m
      omega
theorem sumN_const (c : Int) : ∀ n : Nat, sumN n (fun _ => c) = c * n
  | 0 => by show 0 = c * ((0 : Nat) : Int); rw [Int.natCast_zero, Int.mul_zero]
  | n + 1 => by
    show sumN n _ + c = _
    rw [sumN_const c n, Int.natCast_add, Int.mul_add]
    show _ = c * (n : Int) + c * 1
    rw [Int.mul_one]
theorem sumN_if (c : Int) (s : Nat) : ∀ n : Nat, sumN n (fun j => if (j : Int) < s then c else 0) = c * ((if n < s then n else s : Nat) : Int)
  | 0 => by
    show 0 = _
    have : ((if 0 < s then 0 else s : Nat) : Int) = 0 := by split <;> omega
    rw [this, Int.mul_zero]
  | n + 1 => by
    show sumN n _ + (if (n : Int) < s then c else 0) = _
    rw [sumN_if c s n]
    by_cases h : n < s
    · rw [if_pos h, if_pos (by omega : (n : Int) < s)]
      have e : ((if n + 1 < s then n + 1 else s : Nat) : Int) = (n : Int) + 1 := by split <;> omega
      rw [e, Int.mul_add, Int.mul_one]
    · rw [if_neg h, if_neg (by omega : ¬ (n : Int) < s), if_neg (by omega : ¬ n + 1 < s), Int.add_zero]
theorem reach_sumN {kv : List (Int × Int)} (h : ∀ q ∈ kv, 1 ≤ q.1) : ∀ n : Nat, reachF kv n = sumN n fun j => overF kv j
  | 0 => reach_zero kv h
  | n + 1 => by
    show _ = sumN n _ + overF kv n
    rw [← reach_sumN h n]
    exact reach_step n (by omega) kv
/-- no letters of A have more than the lots can give: by what is above each level -/
structure Maj (A : List Str) (x : Str → Int) (kv : List (Int × Int)) : Prop where
  ge : ∀ a ∈ A, 0 ≤ x a
  all : sumF A x = sumN 12 fun j => overF kv j
  lev : ∀ c : Int, 0 ≤ c → sumF A (fun a => ps (x a - c)) ≤ sumN 12 fun j => ps (overF kv j - c)
theorem sumF_le {A : List Str} {f g : Str → Int} (h : ∀ a ∈ A, f a ≤ g a) : sumF A f ≤ sumF A g := by
  induction A with
  | nil => exact Int.le_refl _
  | cons a A ih =>
    rw [sumF_cons, sumF_cons]
    have := h a List.mem_cons_self
    have := ih fun b hb => h b (List.mem_cons_of_mem _ hb)
    omega
theorem sumF_sub (A : List Str) (f g : Str → Int) : sumF A (fun k => f k - g k) = sumF A f - sumF A g := by
  have := sumF_add A (fun k => f k - g k) g
  rw [sumF_congr (g := f) fun k _ => by omega] at this
  omega
/-- what is above a level, at most t -/
def abv (x L t : Int) : Int := let m := if 0 < x - L then x - L else 0; if m < t then m else t
/-- what is taken: to a level, nearly -/
structure Took (A : List Str) (x : Str → Int) (s t : Int) (w : Str → Int) : Prop where
  ex : ∃ L : Int, 0 ≤ L ∧ ∀ a ∈ A, abv (x a) (L + 1) t ≤ w a ∧ w a ≤ abv (x a) L t
  sum : sumF A w = s * t
theorem abv_ge {x L t : Int} (ht : 0 ≤ t) : 0 ≤ abv x L t := by unfold abv; dsimp only; split <;> split <;> omega
theorem abv_le {x L t : Int} : abv x L t ≤ t := by unfold abv; dsimp only; split <;> split <;> omega
theorem abv_le2 {x L t : Int} (hx : 0 ≤ x) (hL : 0 ≤ L) : abv x L t ≤ x := by unfold abv; dsimp only; split <;> split <;> omega
theorem took_rng {A : List Str} {x w : Str → Int} {s t : Int} (ht : 0 ≤ t) (hx : ∀ a ∈ A, 0 ≤ x a) (h : Took A x s t w) : ∀ a ∈ A, 0 ≤ w a ∧ w a ≤ t ∧ w a ≤ x a := fun a ha => by
  obtain ⟨L, h0, hL⟩ := h.ex
  obtain ⟨h1, h2⟩ := hL a ha
  exact ⟨Int.le_trans (abv_ge ht) h1, Int.le_trans h2 abv_le, Int.le_trans h2 (abv_le2 (hx a ha) h0)⟩
/-- the step: behind the greatest lots the rest holds -/
theorem maj_step {A : List Str} {x w : Str → Int} {s : Nat} {t : Int} {kv : List (Int × Int)} (h : Maj A x (((s : Int), t) :: kv)) (ht : 0 ≤ t) (hs : s ≤ 12) (hk : ∀ q ∈ kv, q.1 ≤ s) (h2 : ∀ q ∈ kv, 0 ≤ q.2)
    (hw : Took A x s t w) : Maj A (fun a => x a - w a) kv := by
  have e12 : sumN 12 (fun j => if (j : Int) < s then t else 0) = s * t := by
    rw [sumN_if t s 12, Int.mul_comm]
    congr 1
    split <;> omega
  have rg := took_rng ht h.ge hw
  obtain ⟨L, h0, hL⟩ := hw.ex
  refine ⟨fun a ha => by have := rg a ha; omega, ?_, fun c hc => ?_⟩
  · rw [sumF_sub, h.all, hw.sum]
    have := sumN_add (fun j => if (j : Int) < s then t else 0) (fun j => overF kv j) 12
    rw [e12] at this
    show sumN 12 (fun j => (if (j : Int) < s then t else 0) + overF kv j) - _ = _
    omega
  · by_cases hcL : L + 1 ≤ c
    · refine Int.le_trans (sumF_le (g := fun a => ps (x a - (c + t))) fun a ha => ?_) (Int.le_trans (h.lev (c + t) (by omega)) (sumN_le fun j _ => ?_))
      · have b := hL a ha
        unfold abv at b; dsimp only at b
        unfold ps
        revert b
        repeat' split
        all_goals omega
      · show ps ((if (j : Int) < s then t else 0) + overF kv j - (c + t)) ≤ ps (overF kv j - c)
        unfold ps
        repeat' split
        all_goals omega
    · have e : sumF A (fun a => ps (x a - w a - c)) = sumF A (fun a => ps (x a - c)) - sumF A w := by
        rw [← sumF_sub]
        refine sumF_congr fun a ha => ?_
        have b := hL a ha
        have := rg a ha
        unfold abv at b; dsimp only at b
        unfold ps
        revert b
        repeat' split
        all_goals omega
      show sumF A (fun a => ps (x a - w a - c)) ≤ _
      rw [e, hw.sum]
      have l1 := h.lev c hc
      have l2 : sumN 12 (fun j => ps (overF (((s : Int), t) :: kv) j - c)) ≤ sumN 12 (fun j => (if (j : Int) < s then t else 0) + ps (overF kv j - c)) := sumN_le fun j _ => by
        show ps ((if (j : Int) < s then t else 0) + overF kv j - c) ≤ _
        unfold ps
        repeat' split
        all_goals omega
      rw [sumN_add, e12] at l2
      omega
theorem maj_zero {A : List Str} {x : Str → Int} {s : Int} {kv : List (Int × Int)} (h : Maj A x ((s, 0) :: kv)) : Maj A x kv := by
  have e : ∀ j, overF ((s, 0) :: kv) j = overF kv j := fun j => by
    show (if j < s then (0 : Int) else 0) + overF kv j = _
    split <;> omega
  refine ⟨h.ge, ?_, fun c hc => ?_⟩
  · have := h.all
    simp only [e] at this
    exact this
  · have := h.lev c hc
    simp only [e] at this
    exact this
/-- at level nought there is enough -/
theorem maj_low {A : List Str} {x : Str → Int} {s : Nat} {t : Int} {kv : List (Int × Int)} (h : Maj A x (((s : Int), t) :: kv)) (ht : 0 ≤ t) (hs : s ≤ 12) (h2 : ∀ q ∈ kv, 0 ≤ q.2) : s * t ≤ sumF A fun a => abv (x a) 0 t := by
  have e12 : sumN 12 (fun j => if (j : Int) < s then t else 0) = s * t := by
    rw [sumN_if t s 12, Int.mul_comm]
    congr 1
    split <;> omega
  have e1 : sumF A (fun a => abv (x a) 0 t) = sumF A x - sumF A (fun a => ps (x a - t)) := by
    rw [← sumF_sub]
    refine sumF_congr fun a ha => ?_
    have := h.ge a ha
    unfold abv ps; dsimp only
    repeat' split
    all_goals omega
  have l1 := h.lev t ht
  have l2 : sumN 12 (fun j => (if (j : Int) < s then t else 0) + ps (overF (((s : Int), t) :: kv) j - t)) ≤ sumN 12 (fun j => overF (((s : Int), t) :: kv) j) := sumN_le fun j _ => by
    have := over_ge h2 j
    show _ + ps ((if (j : Int) < s then t else 0) + overF kv j - t) ≤ (if (j : Int) < s then t else 0) + overF kv j
    unfold ps
    repeat' split
    all_goals omega
  rw [sumN_add, e12] at l2
  rw [e1, h.all]
  omega
/-- no lots: nothing is wanted -/
theorem maj_nil {A : List Str} {x : Str → Int} (h : Maj A x []) : ∀ a ∈ A, x a = 0 := by
  have hs : sumF A x = 0 := h.all
  have hg := h.ge
  clear h
  induction A with
  | nil => exact fun a ha => by cases ha
  | cons b A ih =>
    rw [sumF_cons] at hs
    have g1 := hg b List.mem_cons_self
    have g2 : 0 ≤ sumF A x := by
      have := sumF_le (A := A) (f := fun _ => 0) (g := x) fun a ha => hg a (List.mem_cons_of_mem _ ha)
      rw [sumF_zero] at this
      exact this
    intro a ha
    rcases List.mem_cons.mp ha with rfl | ha
    · omega
    · exact ih (by omega) (fun a ha => hg a (List.mem_cons_of_mem _ ha)) a ha
end B
/-! sums of sets: by beginnings of the falling row, by all sets, by levels -/
namespace B
open PySem L2
/-- falling -/
abbrev Fall (r : List Int) : Prop := r.Pairwise fun a b => b ≤ a
/-- beginnings do not reach too far -/
def PreC (F : Int → Int) (r : List Int) : Prop := ∀ j : Nat, j ≤ r.length → (r.take j).sum ≤ F j
/-- nor do any sets -/
def SubC (F : Int → Int) (r : List Int) : Prop := ∀ s : List Int, s.Sublist r → s.sum ≤ F s.length
theorem take_grow : ∀ (k : Nat) (y : Int) (r : List Int), Fall (y :: r) → k < r.length + 1 → (r.take k).sum ≤ ((y :: r).take k).sum
  | 0, _, _, _, _ => by rw [List.take_zero, List.take_zero]; exact Int.le_refl _
  | k + 1, y, [], _, h => absurd h (by show ¬ k + 1 < 0 + 1; omega)
  | k + 1, y, z :: r, f, h => by
    rw [List.take_succ_cons, List.take_succ_cons, List.sum_cons, List.sum_cons]
    replace f := List.pairwise_cons.mp f
    have := f.1 z List.mem_cons_self
    have ih := take_grow k z r f.2 (by rw [List.length_cons] at h; omega)
    omega
theorem sub_take {s r : List Int} (h : s.Sublist r) (f : Fall r) : s.sum ≤ (r.take s.length).sum := by
  induction h with
  | slnil => exact Int.le_refl _
  | @cons s r y h ih =>
    have f' := List.pairwise_cons.mp f
    exact Int.le_trans (ih f'.2) (take_grow _ y r f (by have := h.length_le; omega))
  | @cons_cons s r y h ih =>
    have f' := List.pairwise_cons.mp f
    rw [List.sum_cons, List.length_cons, List.take_succ_cons, List.sum_cons]
    have := ih f'.2
    omega
theorem pre_sub {F : Int → Int} {r : List Int} (f : Fall r) : PreC F r ↔ SubC F r := by
  constructor
  · intro h s hs
    exact Int.le_trans (sub_take hs f) (h s.length hs.length_le)
  · intro h j hj
    have := h (r.take j) (List.take_sublist j r)
    rw [List.length_take, Nat.min_eq_left hj] at this
    exact this
/-- noughts do not matter -/
theorem fall_zeros : ∀ {r : List Int}, Fall r → (∀ x ∈ r, 0 ≤ x) → ∃ k, r = (r.filter fun x => decide (0 < x)) ++ List.replicate k 0
  | [], _, _ => ⟨0, rfl⟩
  | y :: r, f, p => by
    have f' := List.pairwise_cons.mp f
    by_cases h : 0 < y
    · obtain ⟨k, e⟩ := fall_zeros f'.2 fun x hx => p x (List.mem_cons_of_mem _ hx)
      refine ⟨k, ?_⟩
      rw [List.filter_cons, if_pos (by simpa using h), List.cons_append, ← e]
    · have hz : ∀ x ∈ y :: r, x = 0 := fun x hx => by
        have := p x hx
        have y0 := p y List.mem_cons_self
        rcases List.mem_cons.mp hx with rfl | hx'
        · omega
        · have := f'.1 x hx'
          omega
      refine ⟨(y :: r).length, ?_⟩
      rw [List.filter_eq_nil_iff.mpr fun x hx => by have := hz x hx; simp; omega, List.nil_append]
      exact List.eq_replicate_iff.mpr ⟨rfl, hz⟩
theorem sum_rep0 : ∀ k : Nat, (List.replicate k (0 : Int)).sum = 0
  | 0 => rfl
  | k + 1 => by rw [List.replicate_succ, List.sum_cons, sum_rep0 k]; rfl
theorem pre_zeros {F : Int → Int} (hF : ∀ a b : Nat, a ≤ b → F a ≤ F b) (p : List Int) (k : Nat) : PreC F (p ++ List.replicate k 0) ↔ PreC F p := by
  constructor
  · intro h j hj
    have := h j (by rw [List.length_append]; omega)
    rw [List.take_append_of_le_length hj] at this
    exact this
  · intro h j hj
    by_cases c : j ≤ p.length
    · rw [List.take_append_of_le_length c]
      exact h j c
    · rw [List.take_append, List.take_of_length_le (by omega), List.sum_append, List.take_replicate, sum_rep0, Int.add_zero]
      have := h p.length (Nat.le_refl _)
      rw [List.take_length] at this
      exact Int.le_trans this (hF _ _ (by omega))
/-- above a level: the greatest, so many -/
theorem lev_take (c : Int) : ∀ {r : List Int}, Fall r → ∃ k : Nat, k ≤ r.length ∧ (r.map fun x => ps (x - c)).sum = (r.take k).sum - c * k
  | [], _ => ⟨0, Nat.le_refl _, by show (0 : Int) = 0 - c * ((0 : Nat) : Int); rw [Int.natCast_zero, Int.mul_zero]; rfl⟩
  | y :: r, f => by
    have f' := List.pairwise_cons.mp f
    by_cases h : c < y
    · obtain ⟨k, hk, e⟩ := lev_take c f'.2
      refine ⟨k + 1, by rw [List.length_cons]; omega, ?_⟩
      rw [List.map_cons, List.sum_cons, e, List.take_succ_cons, List.sum_cons, Int.natCast_add, Int.mul_add]
      show ps (y - c) + _ = _ - (_ + c * 1)
      unfold ps
      rw [if_pos (by omega), Int.mul_one]
      omega
    · refine ⟨0, Nat.zero_le _, ?_⟩
      rw [List.take_zero, Int.natCast_zero, Int.mul_zero]
      have : ∀ x ∈ (y :: r).map fun x => ps (x - c), x = 0 := fun x hx => by
        obtain ⟨z, hz, rfl⟩ := List.mem_map.mp hx
        have : z ≤ y := by
          rcases List.mem_cons.mp hz with rfl | hz'
          · exact Int.le_refl _
          · exact f'.1 z hz'
        unfold ps
        rw [if_neg (by omega)]
      rw [List.eq_replicate_iff.mpr ⟨rfl, this⟩, sum_rep0]
      rfl
theorem sumN_ps (g : Nat → Int) (c : Int) (k : Nat) : sumN k g - c * k ≤ sumN k fun j => ps (g j - c) := by
  have h1 := sumN_const c k
  have h2 := sumN_add (fun j => g j - c) (fun _ => c) k
  have e : sumN k (fun j => (g j - c) + c) = sumN k g := by
    congr 1
    funext j
    omega
  rw [e] at h2
  have h3 : sumN k (fun j => g j - c) ≤ sumN k fun j => ps (g j - c) := sumN_le fun j _ => by unfold ps; split <;> omega
  omega
/-- from beginnings to levels -/
theorem maj_pre {A : List Str} {x : Str → Int} {kv : List (Int × Int)} {r : List Int} (hA : A.length ≤ 12) (hx : ∀ a ∈ A, 0 ≤ x a) (hk : ∀ q ∈ kv, 1 ≤ q.1 ∧ q.1 ≤ 12)
    (hp : r.Perm (A.map x)) (f : Fall r) (hs : r.sum = reachF kv 12) (h : PreC (reachF kv) r) : Maj A x kv := by
  have k1 : ∀ q ∈ kv, 1 ≤ q.1 := fun q hq => (hk q hq).1
  refine ⟨hx, ?_, fun c hc => ?_⟩
  · show (A.map x).sum = _
    rw [← sum_permI hp, hs]
    exact reach_sumN k1 12
  · have e : sumF A (fun a => ps (x a - c)) = (r.map fun x => ps (x - c)).sum := by
      rw [sum_permI (hp.map _), List.map_map]
      rfl
    obtain ⟨k, hk', e2⟩ := lev_take c f
    have hl : r.length = A.length := by rw [hp.length_eq, List.length_map]
    have h1 := h k hk'
    rw [e, e2, reach_sumN k1 k] at *
    have h2 := sumN_ps (fun j => overF kv j) c k
    have h3 : sumN k (fun j => ps (overF kv j - c)) ≤ sumN 12 (fun j => ps (overF kv j - c)) := sumN_mono (by omega) fun j _ => by unfold ps; split <;> omega
    omega
theorem reach_mono {kv : List (Int × Int)} (h : ∀ q ∈ kv, 0 ≤ q.2) : ∀ a b : Nat, a ≤ b → reachF kv a ≤ reachF kv b := fun a b hab => by
  obtain ⟨d, rfl⟩ := Nat.exists_eq_add_of_le hab
  clear hab
  induction d with
  | zero => exact Int.le_refl _
  | succ d ih =>
    have := over_ge h ((a + d : Nat) : Int)
    have e := reach_step ((a + d : Nat) : Int) (by omega) kv
    have e2 : ((a + (d + 1) : Nat) : Int) = ((a + d : Nat) : Int) + 1 := by omega
    rw [e2, e]
    omega
end B
/-! drawn sets: what they come to is a sum of sets -/
namespace B
open PySem L2
def mnF (m z : Int) : Int := if m < z then m else z
theorem reach_wsum (kv : List (Int × Int)) (m : Int) : reachF kv m = wsum (mnF m) kv := by
  induction kv with
  | nil => rfl
  | cons q kv ih => rw [reach_cons, wsum_cons, ih, Int.mul_comm]; rfl
theorem reach_put {kv : List (Int × Int)} (n : (kv.map (·.1)).Nodup) (z t m : Int) : reachF (kput kv z (at0 kv z + t)) m = reachF kv m + mnF m z * t := by
  rw [reach_wsum, reach_wsum, wsum_put _ n]
  have : at0 kv z + t - at0 kv z = t := by omega
  rw [this]
theorem reach_set0 {kv : List (Int × Int)} (n : (kv.map (·.1)).Nodup) {z : Int} (h : z ∉ kv.map (·.1)) (m : Int) : reachF (kput kv z 0) m = reachF kv m := by
  have := reach_put n z 0 m
  rw [at0_out h] at this
  rw [show (0 : Int) + 0 = 0 from rfl] at this
  rw [this, Int.mul_zero, Int.add_zero]
/-- these numbers are a sum of such sets, as far as sets tell -/
structure Dlt (A : List Str) (x : Str → Int) (kv : List (Int × Int)) : Prop where
  sub : ∀ S : List Str, S.Sublist A → sumF S x ≤ reachF kv S.length
  all : sumF A x = reachF kv 12
theorem dlt_nil (A : List Str) : Dlt A (fun _ => 0) [] := ⟨fun S _ => by rw [sumF_zero]; exact Int.le_refl _, by rw [sumF_zero]; rfl⟩
/-- one set more, so often -/
theorem dlt_more {A P : List Str} {x x' : Str → Int} {kv : List (Int × Int)} {t : Int} (nA : A.Nodup) (h : Dlt A x kv) (n : (kv.map (·.1)).Nodup) (ht : 0 ≤ t) (nP : P.Nodup) (hP : ∀ a ∈ P, a ∈ A) (hl : P.length ≤ 12)
    (hx : ∀ a ∈ A, x' a = x a + if a ∈ P then t else 0) : Dlt A x' (kput kv (P.length : Int) (at0 kv (P.length : Int) + t)) := by
  have e : ∀ S : List Str, S.Sublist A → sumF S x' = sumF S x + t * ((S.filter fun k => decide (k ∈ P)).length : Int) := fun S hS => by
    rw [← sumF_ind S P, sumF_congr (g := fun a => x a + (if a ∈ P then t else 0)) fun a ha => hx a (hS.subset ha), sumF_add]
    congr 1
    clear hS
    induction S with
    | nil => rw [sumF_nil, sumF_nil, Int.mul_zero]
    | cons a S ih =>
      rw [sumF_cons, sumF_cons, ih, Int.mul_add]
      congr 1
      split
      · rw [Int.mul_one]
      · rw [Int.mul_zero]
  refine ⟨fun S hS => ?_, ?_⟩
  · rw [e S hS, reach_put n]
    have h1 := h.sub S hS
    have nS := hS.nodup nA
    have l1 := List.length_filter_le (fun k => decide (k ∈ P)) S
    have l2 := nodup_le (nS.filter fun k => decide (k ∈ P)) (m := P) fun a ha => by simpa using (List.mem_filter.mp ha).2
    have l3 : ((S.filter fun k => decide (k ∈ P)).length : Int) ≤ mnF (S.length : Int) (P.length : Int) := by unfold mnF; split <;> omega
    have := Int.mul_le_mul_of_nonneg_left l3 ht
    rw [Int.mul_comm (mnF _ _) t]
    omega
  · rw [e A (List.Sublist.refl A), reach_put n, h.all]
    congr 1
    have l2 : (A.filter fun k => decide (k ∈ P)).length = P.length := by
      refine Nat.le_antisymm (nodup_le (nA.filter fun k => decide (k ∈ P)) (m := P) fun a ha => by simpa using (List.mem_filter.mp ha).2) (nodup_le nP fun a ha => List.mem_filter.mpr ⟨hP a ha, by simpa using ha⟩)
    rw [l2, Int.mul_comm]
    congr 1
    unfold mnF
    split <;> omega
theorem dlt_zero {A : List Str} {x : Str → Int} {kv : List (Int × Int)} (h : Dlt A x kv) (n : (kv.map (·.1)).Nodup) {z : Int} (hz : z ∉ kv.map (·.1)) : Dlt A x (kput kv z 0) :=
  ⟨fun S hS => by rw [reach_set0 n hz]; exact h.sub S hS, by rw [reach_set0 n hz]; exact h.all⟩
/-- so any falling row of them holds -/
theorem dlt_pre {A : List Str} {x : Str → Int} {kv : List (Int × Int)} {r : List Int} (h : Dlt A x kv) (hp : r.Perm (A.map x)) (f : Fall r) : PreC (reachF kv) r ∧ r.sum = reachF kv 12 := by
  refine ⟨(pre_sub f).mpr fun s hs => ?_, ?_⟩
  · obtain ⟨s', p', hs'⟩ := List.exists_perm_sublist hs hp
    obtain ⟨S, hS, rfl⟩ := List.sublist_map_iff.mp hs'
    have := h.sub S hS
    rw [← sum_permI p', ← p'.length_eq, List.length_map]
    exact this
  · rw [sum_permI hp]
    exact h.all
end B
/-! what is taken to a level, and how it is laid round -/
namespace B
open PySem L2
theorem abv_step {x L t : Int} (ht : 0 ≤ t) : abv x (L + 1) t ≤ abv x L t ∧ abv x L t ≤ abv x (L + 1) t + 1 := by
  unfold abv; dsimp only
  repeat' split
  all_goals omega
theorem abv_top {x L t : Int} (ht : 0 ≤ t) (h : x ≤ L) : abv x L t = 0 := by
  unfold abv; dsimp only
  repeat' split
  all_goals omega
theorem kput_keys_in {kv : List (Str × Int)} {k : Str} (h : k ∈ kv.map (·.1)) (v : Int) : (kput kv k v).map (·.1) = kv.map (·.1) := by
  unfold kput
  rw [if_pos ((any_key kv k).mpr h), List.map_map]
  refine List.map_congr_left fun q _ => ?_
  show (if q.1 = k then (q.1, v) else q).1 = q.1
  split <;> rfl
/-- one letter of the spare -/
def cut1 (lo : Str → Int) (s : List (Str × Int) × Int) (a : Str) : List (Str × Int) × Int :=
  if 0 < s.2 ∧ lo a < at0 s.1 a then (kput s.1 a (lo a), s.2 - 1) else s
theorem sumF_upd {A : List Str} (nA : A.Nodup) {a : Str} (ha : a ∈ A) (f : Str → Int) (v : Int) : sumF A (fun k => if k = a then v else f k) = sumF A f + (v - f a) := by
  have e : sumF A (fun k => if k = a then v else f k) = sumF A (fun k => f k + if k = a then v - f a else 0) := sumF_congr fun k _ => by
    split
    · rename_i h; subst h; omega
    · omega
  rw [e, sumF_add, sumF_one nA ha]
theorem cut_all {lo : Str → Int} {A : List Str} (nA : A.Nodup) : ∀ {ns : List Str} {kv : List (Str × Int)} {sp : Int}, ns.Nodup → (∀ a ∈ ns, a ∈ A) → (∀ a ∈ ns, a ∈ kv.map (·.1)) → (∀ a ∈ ns, at0 kv a ≤ lo a + 1) → (∀ a ∈ A, lo a ≤ at0 kv a) →
    0 ≤ sp → sp ≤ sumF ns (fun a => at0 kv a - lo a) →
    (ns.foldl (cut1 lo) (kv, sp)).2 = 0 ∧ sumF A (at0 (ns.foldl (cut1 lo) (kv, sp)).1) = sumF A (at0 kv) - sp ∧ (∀ a ∈ A, lo a ≤ at0 (ns.foldl (cut1 lo) (kv, sp)).1 a ∧ at0 (ns.foldl (cut1 lo) (kv, sp)).1 a ≤ at0 kv a) ∧
    (ns.foldl (cut1 lo) (kv, sp)).1.map (·.1) = kv.map (·.1)
  | [], kv, sp, _, _, _, _, h, h0, h1 => by
    have : sp = 0 := by rw [sumF_nil] at h1; omega
    subst this
    exact ⟨rfl, by show sumF A (at0 kv) = _; omega, fun a ha => ⟨h a ha, Int.le_refl _⟩, rfl⟩
  | a :: ns, kv, sp, n, hA, hk, hu, h, h0, h1 => by
    rw [List.nodup_cons] at n
    have haA := hA a List.mem_cons_self
    have hak := hk a List.mem_cons_self
    have hua := hu a List.mem_cons_self
    have hla := h a haA
    rw [sumF_cons] at h1
    rw [List.foldl_cons]
    by_cases c : 0 < sp ∧ lo a < at0 kv a
    · have e : cut1 lo (kv, sp) a = (kput kv a (lo a), sp - 1) := if_pos c
      rw [e]
      have ek : (kput kv a (lo a)).map (·.1) = kv.map (·.1) := kput_keys_in hak _
      have eo : ∀ b ∈ ns, at0 (kput kv a (lo a)) b = at0 kv b := fun b hb => by
        rw [at0_put, if_neg fun z : b = a => n.1 (z ▸ hb)]
      obtain ⟨r1, r2, r3, r4⟩ := cut_all nA (ns := ns) (kv := kput kv a (lo a)) (sp := sp - 1) n.2 (fun b hb => hA b (List.mem_cons_of_mem _ hb)) (fun b hb => ek ▸ hk b (List.mem_cons_of_mem _ hb))
        (fun b hb => by rw [eo b hb]; exact hu b (List.mem_cons_of_mem _ hb)) (fun b hb => by rw [at0_put]; split; (next z => rw [z]; exact Int.le_refl _); exact h b hb) (by omega)
        (by rw [sumF_congr (g := fun b => at0 kv b - lo b) fun b hb => by rw [eo b hb]]; omega)
      refine ⟨r1, ?_, fun b hb => ?_, r4.trans ek⟩
      · rw [r2, sumF_congr (f := at0 (kput kv a (lo a))) (g := fun k => if k = a then lo a else at0 kv k) fun k _ => at0_put kv a k (lo a), sumF_upd nA haA]
        omega
      · have := r3 b hb
        rw [at0_put] at this
        refine ⟨this.1, ?_⟩
        by_cases z : b = a
        · rw [if_pos z] at this; rw [z] at this ⊢; omega
        · rw [if_neg z] at this; exact this.2
    · have e : cut1 lo (kv, sp) a = (kv, sp) := if_neg c
      rw [e]
      refine cut_all nA n.2 (fun b hb => hA b (List.mem_cons_of_mem _ hb)) (fun b hb => hk b (List.mem_cons_of_mem _ hb)) (fun b hb => hu b (List.mem_cons_of_mem _ hb)) h h0 ?_
      by_cases z : 0 < sp
      · have : ¬ lo a < at0 kv a := fun y => c ⟨z, y⟩
        omega
      · have : 0 ≤ sumF ns fun a => at0 kv a - lo a := by
          have := sumF_le (A := ns) (f := fun _ => 0) (g := fun a => at0 kv a - lo a) fun b hb => by have := h b (hA b (List.mem_cons_of_mem _ hb)); omega
          rw [sumF_zero] at this
          exact this
        omega
/-! laid round -/
def begF (w : Str → Int) (t : Int) : Int → List Str → List (Str × Int)
  | _, [] => []
  | z, a :: r => (a, z % t) :: begF w t (z + w a) r
theorem beg_keys (w : Str → Int) (t : Int) : ∀ (z : Int) (ns : List Str), (begF w t z ns).map (·.1) = ns
  | _, [] => rfl
  | z, a :: r => by rw [begF, List.map_cons, beg_keys w t (z + w a) r]
theorem beg_rng {w : Str → Int} {t : Int} (ht : 0 < t) : ∀ {z : Int} {ns : List Str}, ∀ q ∈ begF w t z ns, 0 ≤ q.2 ∧ q.2 < t
  | _, [], q, h => by cases h
  | z, a :: r, q, h => by
    rcases List.mem_cons.mp h with rfl | h
    · exact ⟨Int.emod_nonneg _ (by omega), Int.emod_lt_of_pos _ ht⟩
    · exact beg_rng ht q h
theorem beg_next (w : Str → Int) (t : Int) : ∀ {z : Int} {ns : List Str}, ∀ q ∈ begF w t z ns, (q.2 + w q.1) % t ∈ (begF w t z ns).map (·.2) ∨ (q.2 + w q.1) % t = (z + sumF ns w) % t
  | _, [], q, h => by cases h
  | z, a :: r, q, h => by
    rcases List.mem_cons.mp h with rfl | h
    · show (z % t + w a) % t ∈ _ ∨ (z % t + w a) % t = _
      rw [Int.emod_add_emod]
      cases r with
      | nil => exact .inr (by rw [sumF_cons, sumF_nil, Int.add_zero])
      | cons b r => exact .inl (List.mem_cons_of_mem _ (by rw [begF, List.map_cons]; exact List.mem_cons_self))
    · rcases beg_next w t q h with h' | h'
      · exact .inl (by rw [begF, List.map_cons]; exact List.mem_cons_of_mem _ h')
      · exact .inr (by rw [h', sumF_cons, Int.add_assoc])
/-- in a column -/
def inC (t c b k : Int) : Bool := decide ((c - b) % t < k)
theorem mod_back {t c b : Int} (hc : 0 ≤ c) (hc' : c < t) (hb : 0 ≤ b) (hb' : b < t) : (c - b) % t = if b ≤ c then c - b else c - b + t := by
  split
  · exact Int.emod_eq_of_lt (by omega) (by omega)
  · rw [← Int.add_emod_right]
    exact Int.emod_eq_of_lt (by omega) (by omega)
theorem col_one {t c z k : Int} (ht : 0 < t) (hc : 0 ≤ c) (hc' : c < t) (hk : 0 ≤ k) (hk' : k ≤ t) : (if inC t c (z % t) k then (1 : Int) else 0) = (z + k + t - 1 - c) / t - (z + t - 1 - c) / t := by
  have hb := Int.emod_nonneg z (show t ≠ 0 by omega)
  have hb' := Int.emod_lt_of_pos z ht
  have hz := Int.mul_ediv_add_emod z t
  generalize z % t = b at *
  generalize z / t = q at *
  have e1 : z + k + t - 1 - c = (b + k + t - 1 - c) + q * t := by rw [Int.mul_comm q t]; omega
  have e2 : z + t - 1 - c = (b + t - 1 - c) + q * t := by rw [Int.mul_comm q t]; omega
  rw [e1, e2, Int.add_mul_ediv_right _ _ (by omega), Int.add_mul_ediv_right _ _ (by omega)]
  have d0 : ∀ y : Int, 0 ≤ y → y < t → y / t = 0 := fun y h1 h2 => Int.ediv_eq_zero_of_lt h1 h2
  have d1 : ∀ y : Int, t ≤ y → y < t + t → y / t = 1 := fun y h1 h2 => by
    have : y = (y - t) + 1 * t := by omega
    rw [this, Int.add_mul_ediv_right _ _ (by omega), d0 _ (by omega) (by omega)]; rfl
  have d2 : ∀ y : Int, t + t ≤ y → y < t + t + t → y / t = 2 := fun y h1 h2 => by
    have : y = (y - (t + t)) + 2 * t := by omega
    rw [this, Int.add_mul_ediv_right _ _ (by omega), d0 _ (by omega) (by omega)]; rfl
  unfold inC
  rw [mod_back hc hc' hb hb']
  by_cases h : b ≤ c
  · rw [if_pos h, d0 (b + t - 1 - c) (by omega) (by omega)]
    by_cases h2 : c - b < k
    · rw [if_pos (by simpa using h2), d1 _ (by omega) (by omega)]; omega
    · rw [if_neg (by simpa using h2), d0 _ (by omega) (by omega)]; omega
  · rw [if_neg h, d1 (b + t - 1 - c) (by omega) (by omega)]
    by_cases h2 : c - b + t < k
    · rw [if_pos (by simpa using h2), d2 _ (by omega) (by omega)]; omega
    · rw [if_neg (by simpa using h2), d1 _ (by omega) (by omega)]; omega
theorem col_all {w : Str → Int} {t c : Int} (ht : 0 < t) (hc : 0 ≤ c) (hc' : c < t) (b : Str → Int) : ∀ {z : Int} {ns : List Str}, (∀ a ∈ ns, 0 ≤ w a ∧ w a ≤ t) → (∀ q ∈ begF w t z ns, b q.1 = q.2) →
    ((ns.filter fun a => inC t c (b a) (w a)).length : Int) = (z + sumF ns w + t - 1 - c) / t - (z + t - 1 - c) / t
  | z, [], _, _ => by
    rw [sumF_nil, Int.add_zero, Int.sub_self]; rfl
  | z, a :: r, hw, hb => by
    have ih := col_all (z := z + w a) ht hc hc' b (fun x hx => hw x (List.mem_cons_of_mem _ hx)) (fun q hq => hb q (List.mem_cons_of_mem _ hq))
    have h1 := hw a List.mem_cons_self
    have o := col_one (z := z) ht hc hc' h1.1 h1.2
    have hba : b a = z % t := hb (a, z % t) List.mem_cons_self
    rw [List.filter_cons, hba, sumF_cons]
    have e : z + (w a + sumF r w) + t - 1 - c = z + w a + sumF r w + t - 1 - c := by omega
    rw [e]
    cases hi : inC t c (z % t) (w a) with
    | true =>
      rw [hi, if_pos rfl] at o
      rw [if_pos rfl, List.length_cons, Int.natCast_add]
      show _ + (1 : Int) = _
      omega
    | false =>
      rw [hi, if_neg Bool.false_ne_true] at o
      rw [if_neg Bool.false_ne_true]
      omega
/-- neighbours -/
def segs : List Int → List (Int × Int)
  | a :: b :: r => (a, b) :: segs (b :: r)
  | _ => []
theorem seg_between : ∀ {E : List Int}, E.Pairwise (· < ·) → ∀ q ∈ segs E, q.1 ∈ E ∧ q.2 ∈ E ∧ q.1 < q.2 ∧ ∀ p ∈ E, p ≤ q.1 ∨ q.2 ≤ p
  | [], _, q, h => by cases h
  | [a], _, q, h => by cases h
  | a :: b :: r, s, q, h => by
    have s' := List.pairwise_cons.mp s
    rcases List.mem_cons.mp h with rfl | h
    · refine ⟨List.mem_cons_self, List.mem_cons_of_mem _ List.mem_cons_self, s'.1 b List.mem_cons_self, fun p hp => ?_⟩
      rcases List.mem_cons.mp hp with rfl | hp
      · exact .inl (Int.le_refl _)
      · right
        rcases List.mem_cons.mp hp with rfl | hp
        · exact Int.le_refl _
        · exact Int.le_of_lt ((List.pairwise_cons.mp s'.2).1 p hp)
    · obtain ⟨h1, h2, h3, h4⟩ := seg_between s'.2 q h
      refine ⟨List.mem_cons_of_mem _ h1, List.mem_cons_of_mem _ h2, h3, fun p hp => ?_⟩
      rcases List.mem_cons.mp hp with rfl | hp
      · left
        exact Int.le_of_lt (s'.1 _ h1)
      · exact h4 p hp
theorem seg_tel {f : Int → Int} {g : Int × Int → Int} {t : Int} : ∀ {e : Int} {E : List Int}, (e :: E).Pairwise (· < ·) → (∀ p ∈ e :: E, p ≤ t) → t ∈ e :: E → (∀ q ∈ segs (e :: E), g q = f q.2 - f q.1) → ((segs (e :: E)).map g).sum = f t - f e
  | e, [], _, _, ht, _ => by
    have : t = e := by simpa using ht
    rw [this, Int.sub_self]; rfl
  | e, b :: r, s, hl, ht, hg => by
    have s' := List.pairwise_cons.mp s
    have hb := s'.1 b List.mem_cons_self
    have : t ∈ b :: r := by
      rcases List.mem_cons.mp ht with h | h
      · have := hl b (List.mem_cons_of_mem _ List.mem_cons_self)
        omega
      · exact h
    have ih := seg_tel (f := f) (g := g) s'.2 (fun p hp => hl p (List.mem_cons_of_mem _ hp)) this fun q hq => hg q (List.mem_cons_of_mem _ hq)
    have h0 := hg (e, b) List.mem_cons_self
    rw [segs, List.map_cons, List.sum_cons, ih, h0]
    show f b - f e + (f t - f b) = _
    omega
theorem seg_len : ∀ E : List Int, (segs E).length = E.length - 1
  | [] => rfl
  | [a] => rfl
  | a :: b :: r => by
    rw [segs, List.length_cons, seg_len (b :: r)]
    show r.length + 1 - 1 + 1 = r.length + 1 + 1 - 1
    omega
/-- ends: from nought to t, all that matters among them -/
structure Ends (w : Str → Int) (t : Int) (ns : List Str) (E : List Int) : Prop where
  srt : E.Pairwise (· < ·)
  mem : ∀ e, e ∈ E ↔ e = 0 ∨ e = t ∨ e ∈ (begF w t 0 ns).map (·.2)
theorem ends_shape {w : Str → Int} {t : Int} {ns : List Str} {E : List Int} (ht : 0 < t) (h : Ends w t ns E) : (∀ p ∈ E, 0 ≤ p ∧ p ≤ t) ∧ ∃ r, E = 0 :: r := by
  have hr : ∀ p ∈ E, 0 ≤ p ∧ p ≤ t := fun p hp => by
    rcases (h.mem p).mp hp with rfl | rfl | hp
    · omega
    · omega
    · obtain ⟨q, hq, rfl⟩ := List.mem_map.mp hp
      have := beg_rng ht q hq
      omega
  refine ⟨hr, ?_⟩
  have h0 := (h.mem 0).mpr (.inl rfl)
  cases E with
  | nil => cases h0
  | cons e r =>
    refine ⟨r, ?_⟩
    rcases List.mem_cons.mp h0 with h1 | h1
    · rw [h1]
    · have := (List.pairwise_cons.mp h.srt).1 0 h1
      have := hr e List.mem_cons_self
      omega
theorem lay_times {w : Str → Int} {t : Int} {ns : List Str} {E : List Int} (ht : 0 < t) (h : Ends w t ns E) : ((segs E).map fun q => q.2 - q.1).sum = t := by
  obtain ⟨hr, r, rfl⟩ := ends_shape ht h
  rw [seg_tel (f := fun c => c) h.srt (fun p hp => (hr p hp).2) ((h.mem t).mpr (.inr (.inl rfl))) fun q _ => rfl]
  omega
theorem lay_letter {w : Str → Int} {s t : Int} {ns : List Str} {E : List Int} (ht : 0 < t) (h : Ends w t ns E) (hs : sumF ns w = s * t) {q : Str × Int} (hq : q ∈ begF w t 0 ns) (h0 : 0 ≤ w q.1) (h1 : w q.1 ≤ t) :
    ((segs E).map fun g => if inC t g.1 q.2 (w q.1) then g.2 - g.1 else 0).sum = w q.1 := by
  have hb := beg_rng ht q hq
  have hn : (q.2 + w q.1) % t ∈ E := by
    rcases beg_next w t q hq with h' | h'
    · exact (h.mem _).mpr (.inr (.inr h'))
    · rw [h', hs, Int.zero_add, Int.mul_emod_left]
      exact (h.mem 0).mpr (.inl rfl)
  have hbE : q.2 ∈ E := (h.mem _).mpr (.inr (.inr (List.mem_map.mpr ⟨q, hq, rfl⟩)))
  obtain ⟨hr, r, rfl⟩ := ends_shape ht h
  generalize q.2 = b at *
  generalize w q.1 = k at *
  let f : Int → Int := fun c => if b + k ≤ t then (if c ≤ b then 0 else if c - b < k then c - b else k) else (if c < b + k - t then c else b + k - t) + (if b < c then c - b else 0)
  rw [seg_tel (f := f) h.srt (fun p hp => (hr p hp).2) ((h.mem t).mpr (.inr (.inl rfl))) fun g hg => ?_]
  · show f t - f 0 = k
    simp only [f]
    repeat' split
    all_goals omega
  · obtain ⟨g1, g2, g3, g4⟩ := seg_between h.srt g hg
    have r1 := hr _ g1
    have r2 := hr _ g2
    have p1 := g4 b hbE
    have p2 := g4 _ hn
    unfold inC
    rw [mod_back r1.1 (by omega) hb.1 hb.2]
    by_cases c : b + k ≤ t
    · have p3 : b + k ≤ g.1 ∨ g.2 ≤ b + k := by
        by_cases c' : b + k < t
        · rw [Int.emod_eq_of_lt (by omega) c'] at p2; exact p2
        · right; omega
      simp only [f, decide_eq_true_eq, if_pos c]
      repeat' split
      all_goals omega
    · have e : (b + k) % t = b + k - t := by
        rw [← Int.sub_emod_right]
        exact Int.emod_eq_of_lt (by omega) (by omega)
      rw [e] at p2
      simp only [f, decide_eq_true_eq, if_neg c]
      repeat' split
      all_goals omega
theorem lay_size {w : Str → Int} {t : Int} {s : Nat} {ns : List Str} {c : Int} (ht : 0 < t) (hs : sumF ns w = s * t) (hw : ∀ a ∈ ns, 0 ≤ w a ∧ w a ≤ t) (hc : 0 ≤ c) (hc' : c < t) (b : Str → Int) (hb : ∀ q ∈ begF w t 0 ns, b q.1 = q.2) :
    (ns.filter fun a => inC t c (b a) (w a)).length = s := by
  have := col_all (w := w) ht hc hc' b hw hb
  rw [hs, Int.zero_add, Int.zero_add] at this
  have e1 : (s : Int) * t + t - 1 - c = (t - 1 - c) + s * t := by omega
  rw [e1, Int.add_mul_ediv_right _ _ (by omega), Int.ediv_eq_zero_of_lt (by omega) (by omega)] at this
  omega
end B
/-! heaps, plainly -/
namespace B
open PySem L2
def sumV (kv : List (Str × Int)) : Int := (kv.map (·.2)).sum
def abvD (kv : List (Str × Int)) (L t : Int) : List (Str × Int) := kv.map fun q => (q.1, abv q.2 L t)
theorem map_keys {f : Str × Int → Int} (kv : List (Str × Int)) : (kv.map fun q => (q.1, f q)).map (·.1) = kv.map (·.1) := by
  rw [List.map_map]; rfl
theorem at0_map {f : Str × Int → Int} : ∀ {kv : List (Str × Int)} {a : Str}, (kv.map (·.1)).Nodup → a ∈ kv.map (·.1) → at0 (kv.map fun q => (q.1, f q)) a = f (a, at0 kv a)
  | kv, a, n, h => by
    obtain ⟨q, hq, rfl⟩ := List.mem_map.mp h
    rw [at0_of_mem n hq]
    exact at0_of_mem (kv := kv.map fun q => (q.1, f q)) (q := (q.1, f q)) (by rw [map_keys]; exact n) (List.mem_map.mpr ⟨q, hq, rfl⟩)
theorem sumV_at0 {A : List Str} {kv : List (Str × Int)} (n : (kv.map (·.1)).Nodup) (p : A.Perm (kv.map (·.1))) : sumF A (at0 kv) = sumV kv := by
  rw [sumF_perm p, sumF_at0 n n fun k hk => hk]; rfl
theorem sumV_map {A : List Str} {f : Str × Int → Int} {kv : List (Str × Int)} (n : (kv.map (·.1)).Nodup) (p : A.Perm (kv.map (·.1))) : sumV (kv.map fun q => (q.1, f q)) = sumF A fun a => f (a, at0 kv a) := by
  rw [← sumV_at0 (A := A) (kv := kv.map fun q => (q.1, f q)) (by rw [map_keys]; exact n) (by rw [map_keys]; exact p)]
  exact sumF_congr fun a ha => at0_map n (p.mem_iff.mp ha)
theorem abvD_anti (kv : List (Str × Int)) {L M t : Int} (h : L ≤ M) : sumV (abvD kv M t) ≤ sumV (abvD kv L t) := by
  unfold sumV abvD
  rw [List.map_map, List.map_map]
  induction kv with
  | nil => exact Int.le_refl _
  | cons q kv ih =>
    rw [List.map_cons, List.map_cons, List.sum_cons, List.sum_cons]
    have : abv q.2 M t ≤ abv q.2 L t := by
      unfold abv; dsimp only
      repeat' split
      all_goals omega
    show abv q.2 M t + _ ≤ abv q.2 L t + _
    omega
def IsLev (kv : List (Str × Int)) (s t L : Int) : Prop := 0 ≤ L ∧ s * t ≤ sumV (abvD kv L t) ∧ sumV (abvD kv (L + 1) t) < s * t
noncomputable def levF (kv : List (Str × Int)) (s t : Int) : Int := Classical.epsilon (IsLev kv s t)
theorem lev_is {kv : List (Str × Int)} {s t L : Int} (h : IsLev kv s t L) : levF kv s t = L := by
  have h' : IsLev kv s t (levF kv s t) := Classical.epsilon_spec (p := IsLev kv s t) ⟨L, h⟩
  generalize levF kv s t = M at h'
  obtain ⟨a1, a2, a3⟩ := h
  obtain ⟨b1, b2, b3⟩ := h'
  by_cases c : L + 1 ≤ M
  · have := abvD_anti kv (t := t) c
    omega
  · by_cases c' : M + 1 ≤ L
    · have := abvD_anti kv (t := t) c'
      omega
    · omega
noncomputable def shareF (kv : List (Str × Int)) (s t : Int) : List (Str × Int) :=
  ((sortS (kv.map (·.1))).foldl (cut1 (at0 (abvD kv (levF kv s t + 1) t))) (abvD kv (levF kv s t) t, sumV (abvD kv (levF kv s t) t) - s * t)).1
/-- what is taken is to a level -/
theorem share_took {kv : List (Str × Int)} {s t L : Int} (n : (kv.map (·.1)).Nodup) (ht : 0 ≤ t) (hL : IsLev kv s t L) :
    Took (sortS (kv.map (·.1))) (at0 kv) s t (at0 (shareF kv s t)) ∧ (shareF kv s t).map (·.1) = kv.map (·.1) := by
  have pA := sortS_perm (kv.map (·.1))
  have nA : (sortS (kv.map (·.1))).Nodup := pA.nodup_iff.mpr n
  unfold shareF
  rw [lev_is hL]
  obtain ⟨h0, h1, h2⟩ := hL
  have e : ∀ M, ∀ a ∈ sortS (kv.map (·.1)), at0 (abvD kv M t) a = abv (at0 kv a) M t := fun M a ha => at0_map (f := fun q => abv q.2 M t) n (pA.mem_iff.mp ha)
  have s1 : ∀ M, sumV (abvD kv M t) = sumF (sortS (kv.map (·.1))) fun a => abv (at0 kv a) M t := fun M => sumV_map (f := fun q => abv q.2 M t) n pA
  obtain ⟨r1, r2, r3, r4⟩ := cut_all (lo := at0 (abvD kv (L + 1) t)) nA (ns := sortS (kv.map (·.1))) (kv := abvD kv L t) (sp := sumV (abvD kv L t) - s * t) nA (fun a h => h) (fun a ha => by
      show a ∈ (kv.map fun q => (q.1, abv q.2 L t)).map (·.1)
      rw [map_keys]; exact pA.mem_iff.mp ha)
    (fun a ha => by rw [e _ a ha, e _ a ha]; exact (abv_step ht).2) (fun a ha => by rw [e _ a ha, e _ a ha]; exact (abv_step ht).1) (by omega)
    (by
      rw [sumF_congr (g := fun a => abv (at0 kv a) L t - abv (at0 kv a) (L + 1) t) fun a ha => by rw [e _ a ha, e _ a ha], sumF_sub, ← s1, ← s1]
      omega)
  refine ⟨⟨⟨L, h0, fun a ha => ?_⟩, ?_⟩, r4.trans (map_keys (f := fun q => abv q.2 L t) kv)⟩
  · have := r3 a ha
    rw [e _ a ha, e _ a ha] at this
    exact this
  · rw [r2, sumF_congr fun a ha => e L a ha, ← s1]
    omega
def endF (w : List (Str × Int)) (t : Int) : List Int := (rng 0 (t.toNat + 1)).filter fun e => decide (e = 0 ∨ e = t ∨ e ∈ (begF (at0 w) t 0 (sortS (w.map (·.1)))).map (·.2))
theorem rng_asc (lo : Int) (n : Nat) : (rng lo n).Pairwise (· < ·) := by
  unfold rng
  rw [List.pairwise_map]
  exact List.pairwise_lt_range.imp fun h => by omega
theorem endF_ends {w : List (Str × Int)} {t : Int} (ht : 0 < t) : Ends (at0 w) t (sortS (w.map (·.1))) (endF w t) := by
  refine ⟨(rng_asc _ _).filter _, fun e => ?_⟩
  unfold endF
  rw [List.mem_filter, decide_eq_true_eq, rng_mem]
  constructor
  · exact fun h => h.2
  · intro h
    refine ⟨?_, h⟩
    rcases h with rfl | rfl | h
    · omega
    · omega
    · obtain ⟨q, hq, rfl⟩ := List.mem_map.mp h
      have := beg_rng ht q hq
      omega
def laidF (w : List (Str × Int)) (t : Int) : List (List Str × Int) :=
  (segs (endF w t)).map fun g => ((sortS (w.map (·.1))).filter fun a => inC t g.1 (at0 (begF (at0 w) t 0 (sortS (w.map (·.1)))) a) (at0 w a), g.2 - g.1)
noncomputable def leftF (kv : List (Str × Int)) (s t : Int) : List (Str × Int) := kv.map fun q => (q.1, q.2 - at0 (shareF kv s t) q.1)
noncomputable def heapsF : List (Int × Int) → List (Str × Int) → List (List Str × Int)
  | [], _ => []
  | q :: r, kv => if 0 < q.2 then laidF (shareF kv q.1 q.2) q.2 ++ heapsF r (leftF kv q.1 q.2) else heapsF r kv
theorem top_ex : ∀ kv : List (Str × Int), ∃ k : Nat, ∀ q ∈ kv, q.2 ≤ (k : Int)
  | [] => ⟨0, fun q h => by cases h⟩
  | q :: kv => by
    obtain ⟨k, hk⟩ := top_ex kv
    refine ⟨k + q.2.toNat, fun r hr => ?_⟩
    rcases List.mem_cons.mp hr with rfl | hr
    · omega
    · have := hk r hr
      omega
/-- a level is there -/
theorem lev_ex {kv : List (Str × Int)} {s : Nat} {t : Int} (n : (kv.map (·.1)).Nodup) (hs : 1 ≤ s) (ht : 0 < t) (h0 : (s : Int) * t ≤ sumV (abvD kv 0 t)) : ∃ L, IsLev kv s t L := by
  have hw : 0 < (s : Int) * t := Int.mul_pos (by omega) ht
  have ex : ∃ k : Nat, sumV (abvD kv (k : Int) t) < s * t := by
    obtain ⟨k, hk⟩ := top_ex kv
    refine ⟨k, ?_⟩
    have z : sumV (abvD kv (k : Int) t) = 0 := by
      unfold sumV abvD
      rw [List.map_map]
      have : ∀ x ∈ kv.map ((fun q : Str × Int => q.2) ∘ fun q => (q.1, abv q.2 (k : Int) t)), x = 0 := fun x hx => by
        obtain ⟨q, hq, rfl⟩ := List.mem_map.mp hx
        exact abv_top (by omega) (hk q hq)
      rw [List.eq_replicate_iff.mpr ⟨rfl, this⟩, sum_rep0]
    rw [z]; exact hw
  obtain ⟨k, hk⟩ := ex
  induction k with
  | zero => exact absurd hk (by show ¬ sumV (abvD kv 0 t) < _; omega)
  | succ k ih =>
    by_cases c : sumV (abvD kv (k : Int) t) < s * t
    · exact ih c
    · exact ⟨k, by omega, by omega, hk⟩
/-- rows that are right -/
structure HRight (A : List Str) (x : Str → Int) (sz : List (Int × Int)) (rows : List (List Str × Int)) : Prop where
  row : ∀ r ∈ rows, r.1.Sublist A ∧ 0 < r.2 ∧ ∃ q ∈ sz, (r.1.length : Int) = q.1
  fall : rows.Pairwise fun r r' => r'.1.length ≤ r.1.length
  few : ∀ z : Nat, (rows.filter fun r => decide (r.1.length = z)).length ≤ A.length + 1
  size : ∀ z : Nat, ((rows.filter fun r => decide (r.1.length = z)).map (·.2)).sum = at0 sz (z : Int)
  name : ∀ a ∈ A, ((rows.filter fun r => decide (a ∈ r.1)).map (·.2)).sum = x a
end B
/-! heaps are right -/
namespace B
open PySem L2
theorem fsum_if {α : Type} (p : α → Bool) (f : α → Int) : ∀ l : List α, ((l.filter p).map f).sum = (l.map fun x => if p x then f x else 0).sum
  | [] => rfl
  | x :: l => by
    rw [List.filter_cons, List.map_cons, List.sum_cons, ← fsum_if p f l]
    by_cases h : p x = true
    · rw [if_pos h, if_pos h, List.map_cons, List.sum_cons]
    · rw [if_neg h, if_neg h, Int.zero_add]
theorem end_len {w : List (Str × Int)} {t : Int} (ht : 0 < t) : (endF w t).length ≤ (sortS (w.map (·.1))).length + 2 := by
  have h := endF_ends (w := w) ht
  have := nodup_le (l := endF w t) (m := 0 :: t :: (begF (at0 w) t 0 (sortS (w.map (·.1)))).map (·.2)) (h.srt.imp fun z e => by omega) fun e he => by
    rcases (h.mem e).mp he with rfl | rfl | he
    · exact List.mem_cons_self
    · exact List.mem_cons_of_mem _ List.mem_cons_self
    · exact List.mem_cons_of_mem _ (List.mem_cons_of_mem _ he)
  refine Nat.le_trans this ?_
  rw [List.length_cons, List.length_cons, List.length_map, ← List.length_map (f := fun q : Str × Int => q.1), beg_keys]
  omega
structure LRight (A : List Str) (w : Str → Int) (s : Nat) (t : Int) (rows : List (List Str × Int)) : Prop where
  row : ∀ r ∈ rows, r.1.Sublist A ∧ 0 < r.2 ∧ r.1.length = s
  few : rows.length ≤ A.length + 1
  all : (rows.map (·.2)).sum = t
  name : ∀ a ∈ A, ((rows.filter fun r => decide (a ∈ r.1)).map (·.2)).sum = w a
theorem laid_right {w : List (Str × Int)} {s : Nat} {t : Int} (n : (w.map (·.1)).Nodup) (ht : 0 < t) (hw : ∀ a ∈ sortS (w.map (·.1)), 0 ≤ at0 w a ∧ at0 w a ≤ t) (hs : sumF (sortS (w.map (·.1))) (at0 w) = s * t) :
    LRight (sortS (w.map (·.1))) (at0 w) s t (laidF w t) := by
  have hE := endF_ends (w := w) ht
  have nA : (sortS (w.map (·.1))).Nodup := (sortS_perm _).nodup_iff.mpr n
  have hb : ∀ q ∈ begF (at0 w) t 0 (sortS (w.map (·.1))), at0 (begF (at0 w) t 0 (sortS (w.map (·.1)))) q.1 = q.2 := fun q hq => at0_of_mem (by rw [beg_keys]; exact nA) hq
  obtain ⟨hr, _⟩ := ends_shape ht hE
  refine ⟨fun r hr' => ?_, ?_, ?_, fun a ha => ?_⟩
  · obtain ⟨g, hg, rfl⟩ := List.mem_map.mp hr'
    obtain ⟨g1, g2, g3, g4⟩ := seg_between hE.srt g hg
    have r1 := hr _ g1
    have r2 := hr _ g2
    refine ⟨List.filter_sublist, by show 0 < g.2 - g.1; omega, ?_⟩
    exact lay_size ht hs hw r1.1 (by omega) _ hb
  · unfold laidF
    rw [List.length_map, seg_len]
    have := end_len (w := w) ht
    omega
  · unfold laidF
    rw [List.map_map]
    exact lay_times ht hE
  · unfold laidF
    rw [fsum_if, List.map_map]
    have hk : a ∈ (begF (at0 w) t 0 (sortS (w.map (·.1)))).map (·.1) := by rw [beg_keys]; exact ha
    obtain ⟨q, hq, rfl⟩ := List.mem_map.mp hk
    have := lay_letter ht hE hs hq (hw _ ha).1 (hw _ ha).2
    refine Eq.trans ?_ this
    congr 1
    refine List.map_congr_left fun g _ => ?_
    have e : decide (q.1 ∈ (sortS (w.map (·.1))).filter fun a => inC t g.1 (at0 (begF (at0 w) t 0 (sortS (w.map (·.1)))) a) (at0 w a)) = inC t g.1 q.2 (at0 w q.1) := by
      rw [← hb q hq]
      cases hi : inC t g.1 (at0 (begF (at0 w) t 0 (sortS (w.map (·.1)))) q.1) (at0 w q.1) with
      | true => exact decide_eq_true (List.mem_filter.mpr ⟨ha, hi⟩)
      | false => exact decide_eq_false fun z => Bool.false_ne_true (hi.symm.trans (List.mem_filter.mp z).2)
    show (if decide (q.1 ∈ (sortS (w.map (·.1))).filter fun a => inC t g.1 (at0 (begF (at0 w) t 0 (sortS (w.map (·.1)))) a) (at0 w a)) = true then g.2 - g.1 else 0) = _
    rw [e]
theorem hright_nil {A : List Str} {x : Str → Int} {sz : List (Int × Int)} (hz : ∀ z, at0 sz z = 0) (hx : ∀ a ∈ A, x a = 0) : HRight A x sz [] :=
  ⟨fun r h => (by cases h), List.Pairwise.nil, fun z => Nat.zero_le _, fun z => by rw [hz]; rfl, fun a ha => by rw [hx a ha]; rfl⟩
theorem filter_all {α : Type} {p : α → Bool} {l : List α} (h : ∀ x ∈ l, p x = true) : l.filter p = l := List.filter_eq_self.mpr h
theorem filter_none {α : Type} {p : α → Bool} {l : List α} (h : ∀ x ∈ l, p x = false) : l.filter p = [] := List.filter_eq_nil_iff.mpr fun x hx z => by rw [h x hx] at z; cases z
theorem hright_more {A : List Str} {x w : Str → Int} {s : Nat} {t : Int} {sz : List (Int × Int)} {r0 r1 : List (List Str × Int)} (h0 : LRight A w s t r0) (h1 : HRight A (fun a => x a - w a) sz r1) (hk : ∀ q ∈ sz, q.1 < s) :
    HRight A x (((s : Int), t) :: sz) (r0 ++ r1) := by
  have l1 : ∀ r ∈ r1, r.1.length < s := fun r hr => by
    obtain ⟨_, _, q, hq, e⟩ := h1.row r hr
    have := hk q hq
    omega
  have fz : ∀ z : Nat, (r0 ++ r1).filter (fun r => decide (r.1.length = z)) = if z = s then r0 else r1.filter fun r => decide (r.1.length = z) := fun z => by
    rw [List.filter_append]
    split
    · rename_i e
      subst e
      rw [filter_all fun r hr => decide_eq_true (h0.row r hr).2.2, filter_none (l := r1) fun r hr => decide_eq_false (Nat.ne_of_lt (l1 r hr)), List.append_nil]
    · rename_i e
      rw [filter_none (l := r0) fun r hr => decide_eq_false fun y => e (y.symm.trans (h0.row r hr).2.2), List.nil_append]
  refine ⟨fun r hr => ?_, ?_, fun z => ?_, fun z => ?_, fun a ha => ?_⟩
  · rcases List.mem_append.mp hr with hr | hr
    · obtain ⟨a, b, c⟩ := h0.row r hr
      exact ⟨a, b, _, List.mem_cons_self, by rw [c]⟩
    · obtain ⟨a, b, q, hq, c⟩ := h1.row r hr
      exact ⟨a, b, q, List.mem_cons_of_mem _ hq, c⟩
  · refine List.pairwise_append.mpr ⟨?_, h1.fall, fun r hr r' hr' => ?_⟩
    · exact List.Pairwise.imp_of_mem (R := fun _ _ => True) (fun {a b} ha hb _ => by rw [(h0.row a ha).2.2, (h0.row b hb).2.2]; exact Nat.le_refl _) (List.pairwise_of_forall fun _ _ => trivial)
    · have := l1 r' hr'
      have := (h0.row r hr).2.2
      omega
  · rw [fz]
    split
    · exact h0.few
    · exact h1.few z
  · rw [fz, at0_cons]
    by_cases e : z = s
    · rw [if_pos e, if_pos (by rw [e]), h0.all]
    · rw [if_neg e, if_neg (by show ¬ (s : Int) = z; omega), h1.size z]
  · rw [List.filter_append, List.map_append, List.sum_append, h0.name a ha, h1.name a ha]
    omega
theorem hright_zero {A : List Str} {x : Str → Int} {s : Int} {sz : List (Int × Int)} {r : List (List Str × Int)} (h : HRight A x sz r) (hk : s ∉ sz.map (·.1)) : HRight A x ((s, 0) :: sz) r := by
  refine ⟨fun r hr => ?_, h.fall, h.few, fun z => ?_, h.name⟩
  · obtain ⟨a, b, q, hq, c⟩ := h.row r hr
    exact ⟨a, b, q, List.mem_cons_of_mem _ hq, c⟩
  · rw [h.size z, at0_cons]
    split
    · rename_i e
      have e' : s = z := e
      rw [← e', at0_out hk]
    · rfl
theorem left_keys (kv : List (Str × Int)) (s t : Int) : (leftF kv s t).map (·.1) = kv.map (·.1) := map_keys (f := fun q => q.2 - at0 (shareF kv s t) q.1) kv
theorem left_at {kv : List (Str × Int)} {s t : Int} (n : (kv.map (·.1)).Nodup) {a : Str} (ha : a ∈ kv.map (·.1)) : at0 (leftF kv s t) a = at0 kv a - at0 (shareF kv s t) a := at0_map (f := fun q => q.2 - at0 (shareF kv s t) q.1) n ha
theorem maj_congr {A : List Str} {x y : Str → Int} {sz : List (Int × Int)} (h : Maj A x sz) (e : ∀ a ∈ A, x a = y a) : Maj A y sz :=
  ⟨fun a ha => e a ha ▸ h.ge a ha, by rw [← h.all]; exact (sumF_congr e).symm, fun c hc => by
    rw [← sumF_congr (f := fun a => ps (x a - c)) fun a ha => by rw [e a ha]]
    exact h.lev c hc⟩
theorem hright_congr {A : List Str} {x y : Str → Int} {sz : List (Int × Int)} {r : List (List Str × Int)} (h : HRight A x sz r) (e : ∀ a ∈ A, x a = y a) : HRight A y sz r :=
  ⟨h.row, h.fall, h.few, h.size, fun a ha => by rw [h.name a ha, e a ha]⟩
/-- sizes falling, as told -/
structure SzF (sz : List (Int × Int)) : Prop where
  srt : sz.Pairwise fun q r => r.1 < q.1
  rng : ∀ q ∈ sz, 1 ≤ q.1 ∧ q.1 ≤ 12 ∧ 0 ≤ q.2
/-- what share needs, and what it leaves -/
theorem share_step {kv : List (Str × Int)} {q : Int × Int} {sz : List (Int × Int)} (n : (kv.map (·.1)).Nodup) (hz : SzF (q :: sz)) (hp : 0 < q.2) (h : Maj (sortS (kv.map (·.1))) (at0 kv) (q :: sz)) :
    (∃ L, IsLev kv q.1 q.2 L) ∧ Took (sortS (kv.map (·.1))) (at0 kv) q.1 q.2 (at0 (shareF kv q.1 q.2)) ∧ (shareF kv q.1 q.2).map (·.1) = kv.map (·.1) ∧ Maj (sortS ((leftF kv q.1 q.2).map (·.1))) (at0 (leftF kv q.1 q.2)) sz := by
  obtain ⟨s', t⟩ := q
  have rg := hz.rng _ List.mem_cons_self
  obtain ⟨s, rfl⟩ : ∃ s : Nat, s' = (s : Int) := ⟨s'.toNat, by have : 1 ≤ s' := rg.1; omega⟩
  have hp' : 0 < t := hp
  have k2 : ∀ r ∈ sz, 0 ≤ r.2 := fun r hr => (hz.rng r (List.mem_cons_of_mem _ hr)).2.2
  have k1 : ∀ r ∈ sz, r.1 ≤ (s : Int) := fun r hr => by have := (List.pairwise_cons.mp hz.srt).1 r hr; show r.1 ≤ _; omega
  have hs1 : 1 ≤ s := by have : (1 : Int) ≤ s := rg.1; omega
  have hs2 : s ≤ 12 := by have : (s : Int) ≤ 12 := rg.2.1; omega
  have pA := sortS_perm (kv.map (·.1))
  have low := maj_low h (by omega) hs2 k2
  have lv := lev_ex n hs1 hp' (by rw [show sumV (abvD kv 0 t) = _ from sumV_map (f := fun q => abv q.2 0 t) n pA]; exact low)
  obtain ⟨L, hL⟩ := lv
  obtain ⟨tk, ke⟩ := share_took n (by omega) hL
  refine ⟨⟨L, hL⟩, tk, ke, ?_⟩
  rw [left_keys]
  exact maj_congr (maj_step h (by omega) hs2 k1 k2 tk) fun a ha => (left_at n (pA.mem_iff.mp ha)).symm
theorem heaps_right : ∀ {sz : List (Int × Int)} {kv : List (Str × Int)}, (kv.map (·.1)).Nodup → SzF sz → Maj (sortS (kv.map (·.1))) (at0 kv) sz → HRight (sortS (kv.map (·.1))) (at0 kv) sz (heapsF sz kv)
  | [], kv, n, hz, h => hright_nil (fun z => rfl) (maj_nil h)
  | q :: sz, kv, n, hz, h => by
    have hz' : SzF sz := ⟨(List.pairwise_cons.mp hz.srt).2, fun r hr => hz.rng r (List.mem_cons_of_mem _ hr)⟩
    have rg := hz.rng _ List.mem_cons_self
    have kl := (List.pairwise_cons.mp hz.srt).1
    unfold heapsF
    by_cases hp : 0 < q.2
    · rw [if_pos hp]
      obtain ⟨_, tk, ke, mj⟩ := share_step n hz hp h
      have ih := heaps_right (by rw [left_keys]; exact n) hz' mj
      rw [left_keys] at ih
      have rgs := took_rng (by omega) h.ge tk
      obtain ⟨s', t⟩ := q
      obtain ⟨s, rfl⟩ : ∃ s : Nat, s' = (s : Int) := ⟨s'.toNat, by have : 1 ≤ s' := rg.1; omega⟩
      have lr := laid_right (w := shareF kv s t) (s := s) (by rw [ke]; exact n) hp (by rw [ke]; exact fun a ha => ⟨(rgs a ha).1, (rgs a ha).2.1⟩) (by rw [ke]; exact tk.sum)
      rw [ke] at lr
      exact hright_more lr (hright_congr ih fun a ha => left_at n ((sortS_perm _).mem_iff.mp ha)) fun r hr => kl r hr
    · rw [if_neg hp]
      obtain ⟨s, t⟩ := q
      have : t = 0 := by
        have : (0 : Int) ≤ t := rg.2.2
        have : ¬ (0 : Int) < t := hp
        omega
      subst this
      exact hright_zero (heaps_right n hz' (maj_zero h)) fun z => by
        obtain ⟨r, hr, e⟩ := List.mem_map.mp z
        have : r.1 < s := kl r hr
        omega
end B
/-! law_k22: what the program computes: reach, holds, above -/
namespace B
open PySem L2
open PySem.W (Tup T3 T4 Datum DatumOrd)
open Evl (Ex)
/-- sizes and how often -/
structure SzOk (kv : List (Int × Int)) : Prop where
  bd : ∀ q ∈ kv, 1 ≤ q.1 ∧ q.1 ≤ 12 ∧ 0 ≤ q.2
  nd : (kv.map (·.1)).Nodup
theorem SzOk.len {kv : List (Int × Int)} (h : SzOk kv) : kv.length ≤ 12 := by
  have := nodup_le h.nd (m := rng 1 12) fun x hx => by
    obtain ⟨q, hq, rfl⟩ := List.mem_map.mp hx
    have := h.bd q hq
    exact rng_mem.mpr ⟨by omega, by omega⟩
  rw [List.length_map, rng_len] at this
  exact this
def fallF (wv : List (Str × Int)) : List Int := (wv.map (·.2)).mergeSort fun a b => decide (b ≤ a)
theorem fallF_perm (wv : List (Str × Int)) : (fallF wv).Perm (wv.map (·.2)) := List.mergeSort_perm _ _
theorem fallF_fall (wv : List (Str × Int)) : Fall (fallF wv) := by
  have := List.pairwise_mergeSort (le := fun a b : Int => decide (b ≤ a)) (fun a b c h1 h2 => by simp only [decide_eq_true_eq] at *; omega) (fun a b => by simp only [Bool.or_eq_true, decide_eq_true_eq]; omega) (wv.map (·.2))
  exact this.imp fun h => by simpa using h
theorem fallF_len (wv : List (Str × Int)) : (fallF wv).length = wv.length := by rw [(fallF_perm wv).length_eq, List.length_map]
def holdsF (kv : List (Int × Int)) (wv : List (Str × Int)) : Bool := decide ((fallF wv).sum = reachF kv 12) && (List.range (fallF wv).length).all fun j => decide (((fallF wv).take (j + 1)).sum ≤ reachF kv ((j : Int) + 1))
theorem holds_iff {kv : List (Int × Int)} {wv : List (Str × Int)} (h : SzOk kv) : holdsF kv wv = true ↔ (fallF wv).sum = reachF kv 12 ∧ PreC (reachF kv) (fallF wv) := by
  unfold holdsF
  rw [Bool.and_eq_true, decide_eq_true_eq, List.all_eq_true]
  refine and_congr_right fun _ => ⟨fun a j hj => ?_, fun a j hj => ?_⟩
  · cases j with
    | zero =>
      show (0 : Int) ≤ reachF kv 0
      rw [reach_zero kv fun q hq => (h.bd q hq).1]
      exact Int.le_refl _
    | succ j =>
      have := a j (List.mem_range.mpr (by omega))
      simpa using this
  · rw [decide_eq_true_eq]
    have := a (j + 1) (by have := List.mem_range.mp hj; omega)
    simpa using this
def sp_reach (K : Fg) : Sp := fun vs H Q _ => ∃ (W : Wd) (v : V) (kv : List (Int × Int)) (m : Int), W.H = H ∧ vs = [v, .int m] ∧ DictAt K W v ⟨kv⟩ ∧ SzOk kv ∧ 0 ≤ m ∧
  ∀ W', Grow W W' → Q (.int (reachF kv m)) W'.H
theorem len_reach {K : Fg} {vs : List V} {H : Hp} {Q : VK} {E : XK} (h : sp_reach K vs H Q E) : vs.length = ["sizes", "many"].length := by
  obtain ⟨W, v, kv, m, _, rfl, _⟩ := h
  rfl
/-- reach: the slots 0 sizes, 1 many, 2 size, 3 times -/
abbrev n_reach : List Str := ["sizes", "many", "size", "times"]
def t_reach (K : Fg) : TS := (tRet (tCB (rSum K) (tCons (tLockE (tLc (iItems (tVar 0)) (gPair K 2 3) tYes (tOp oMul (tVar 3) (tCB rMin2 (tCons (tVar 2) (tCons (tVar 1) tNil)))) [2, 3])) tNil)))
def sp_holds (K : Fg) : Sp := fun vs H Q _ => ∃ (W : Wd) (v w : V) (kv : List (Int × Int)) (wv : List (Str × Int)), W.H = H ∧ vs = [v, w] ∧ DictAt K W v ⟨kv⟩ ∧ DictAt K W w ⟨wv⟩ ∧ SzOk kv ∧ wv.length ≤ 1000 ∧
  ∀ W', Grow W W' → Q (.bl (holdsF kv wv)) W'.H
theorem len_holds {K : Fg} {vs : List V} {H : Hp} {Q : VK} {E : XK} (h : sp_holds K vs H Q E) : vs.length = ["sizes", "wanted"].length := by
  obtain ⟨W, v, w, kv, wv, _, rfl, _⟩ := h
  rfl
/-- holds: the slots 0 sizes, 1 wanted, 2 row, 3 together, 4 at, 5 number -/
abbrev n_holds : List Str := ["sizes", "wanted", "row", "together", "at", "number"]
def t_holds (K : Fg) : TS := (tSeq (tAsg (tCKw rSortedVR (tCons (tVals (tVar 1)) tNil) (tCons (tC (.bl true)) tNil)) (gName 2))
  (tSeq (tIfS (tTest (tOp rNe (tCB (rSum K) (tCons (tVar 2) tNil)) (tCall (sp_reach K) [] E0 (tCons (tVar 0) (tCons (tC (.int 12)) tNil))))) (tRet (tC (.bl false))) tNext)
  (tSeq (tAsg (tC (.int 0)) (gName 3))
  (tSeq (tFor (iEnum K (tCons (tVar 2) tNil)) (gPair K 4 5)
  (tSeq (tAug 3 (tVar 5) (ipI fun i j => i + j))
  (tIfS (tTest (tOp oGt (tVar 3) (tCall (sp_reach K) [] E0 (tCons (tVar 0) (tCons (tOp oAdd (tVar 4) (tC (.int 1))) tNil))))) (tRet (tC (.bl false))) tNext)))
  (tRet (tC (.bl true)))))))
def sp_above (K : Fg) : Sp := fun vs H Q _ => ∃ (W : Wd) (v : V) (kv : List (Str × Int)) (L t : Int), W.H = H ∧ vs = [v, .int L, .int t] ∧ DictAt K W v ⟨kv⟩ ∧ (kv.map (·.1)).Nodup ∧ kv.length ≤ 1000 ∧
  ∀ p W', Grow W W' → W.H p = none → DMut K W' p (abvD kv L t) → Q (.ref p) W'.H
theorem len_above {K : Fg} {vs : List V} {H : Hp} {Q : VK} {E : XK} (h : sp_above K vs H Q E) : vs.length = ["left", "level", "times"].length := by
  obtain ⟨W, v, kv, L, t, _, rfl, _⟩ := h
  rfl
/-- above: the slots 0 left, 1 level, 2 times, 3 name, 4 number -/
abbrev n_above : List Str := ["left", "level", "times", "name", "number"]
def t_above (K : Fg) : TS := (tRet (tLockE (tDc (iItems (tVar 0)) (gPair K 3 4) tYes (tVar 3) (tCB rMin2 (tCons (tVar 2) (tCons (tCB rMax2 (tCons (tC (.int 0)) (tCons (tOp oSub (tVar 4) (tVar 1)) tNil))) tNil))) [3, 4])))
section
variable {K : Fg} {vs : List V} {H : Hp} {Q : VK} {E : XK}
theorem rd_reach (h : sp_reach K vs H Q E) : t_reach K { nx := fun _ H' => Q .non H', rt := Q } (start n_reach vs) H := by
  obtain ⟨W, v, kv, m, rfl, rfl, ⟨a, ks, rfl, hB, hH, hr⟩, hb, h0, k⟩ := h
  have hl := hb.len
  refine s_ret (ε := pur) (x := reachF kv m) (K := K) (ev_cb1 (ev_lock hH fun WL lk => ev_lcP (K := K) (ei_items (ev_rvar rfl) lk.lk (KReps.mono (exExt lk.b) hr)) (fun x v u W' hx g r1 r2 => ?_) (by show kv.length ≤ 100000; omega)) rc_sum) trivial fun v W' g r => ?_
  · have := hb.bd x hx
    exact ev_op (ev_var rfl r2) (ev_cb2 (ev_var rfl r1) (ev_var rfl (show rep K W'.B (V.int m) m from rfl)) rc_min2) (ro_I (.inr ⟨by split <;> omega, by split <;> omega⟩))
  · rw [show v = _ from r]; exact k W' g.pure
theorem ev_reach {σ : SS} {W : Wd} {te : TE} {v : V} {kv : List (Int × Int)} {m : Int} {i : Nat} (h1 : σ[i]? = some (some v)) (dv : DictAt K W v ⟨kv⟩) (ok : SzOk kv) (h0 : 0 ≤ m) (he : EvR pur K te σ W m) :
    EvR pur K (tCall (sp_reach K) [] E0 (tCons (tVar i) (tCons te tNil))) σ W (reachF kv m) := fun W1 g1 Q k =>
  ⟨_, h1, he W1 g1 _ fun u W2 g2 r => ⟨W2, v, kv, m, rfl, by rw [show u = _ from r]; rfl, (dv.s g1).s g2, ok, h0, fun W3 g3 => k _ W3 (g2.and g3) rfl⟩⟩
theorem rd_holds (h : sp_holds K vs H Q E) : t_holds K { nx := fun _ H' => Q .non H', rt := Q } (start n_holds vs) H := by
  obtain ⟨W, v, w, kv, wv, rfl, rfl, dv, dw, ok, hl, k⟩ := h
  show t_holds K _ [some v, some w, none, none, none, none] W.H
  refine q_asg (ε := pur) (K := K) (x := fallF wv) (ev_sortedVR (ev_dvar (i := 1) rfl dw) (fallF_perm wv) (fallF_fall wv)) trivial fun vr W1 g1 r1 => ?_
  have dv1 := dv.s g1
  show tSeq _ _ _ [some v, some w, some vr, none, none, none] W1.H
  have e1 : EvT pur (tTest (tOp rNe (tCB (rSum K) (tCons (tVar 2) tNil)) (tCall (sp_reach K) [] E0 (tCons (tVar 0) (tCons (tC (.int 12)) tNil))))) [some v, some w, some vr, none, none, none] W1 (!decide ((fallF wv).sum = reachF kv 12)) :=
    et_test (ev_op (ev_cb1 (ev_var (i := 2) rfl r1) rc_sum) (ev_reach (i := 0) rfl dv1 ok (by decide) ev_int) ro_neI)
  refine q_when (ε := pur) e1 trivial (fun hb W2 g2 => ?_) (fun hb W2 g2 => ?_)
  · refine s_ret (ε := pur) (K := K) (x := false) ev_bl trivial fun u W3 g3 ru => ?_
    rw [show u = V.bl false from ru]
    have : holdsF kv wv = false := by
      unfold holdsF
      rw [nb_t hb]
      rfl
    have := k W3 ((g1.pure.trans g2.pure).trans g3.pure)
    rwa [‹holdsF kv wv = false›] at this
  have hsum : decide ((fallF wv).sum = reachF kv 12) = true := nb_f hb
  refine q_asg (ε := pur) (K := K) (x := (0 : Int)) ev_int trivial fun v0 W3 g3 r3 => ?_
  rw [show v0 = V.int 0 from r3]
  have G3 := (g1.pure.trans g2.pure).trans g3.pure
  have rr3 := rep_s g3 (rep_s g2 r1)
  have dv3 := (dv1.s g2).s g3
  show tSeq _ _ _ [some v, some w, some vr, some (.int 0), none, none] W3.H
  refine q_for (ε := pur) (K := K) (σ := [some v, some w, some vr, some (.int 0), none, none]) (xs := (rng 0 (fallF wv).length).zip (fallF wv)) (ei_enum (ev_var (i := 2) rfl rr3)) trivial fun W4 g4 =>
    ⟨fun i σ W' => ∃ a b : Option V, σ = [some v, some w, some vr, some (.int ((fallF wv).take i).sum), a, b] ∧ Grow W4 W' ∧ ∀ j, j < i → ((fallF wv).take (j + 1)).sum ≤ reachF kv ((j : Int) + 1),
      ⟨none, none, rfl, .refl _ _, fun j hj => absurd hj (Nat.not_lt_zero _)⟩, fun i σ' W' ⟨_, _, _, g, _⟩ => g.on, ?_, ?_⟩
  · rintro i x vx σ' W5' W5 hi hx ⟨a, b, rfl, g5', hj⟩ g5 rx
    have hlen : ((rng 0 (fallF wv).length).zip (fallF wv)).length = (fallF wv).length := by rw [List.length_zip, rng_len]; omega
    rw [hlen] at hi
    rw [List.getElem?_zip_eq_some, rng_get hi] at hx
    obtain ⟨hx1, hx2⟩ := hx
    have ex1 : x.1 = (i : Int) := by have := Option.some.inj hx1; omega
    refine gt_pair (i := 4) (j := 5) x vx W5 _ _ rx fun σ2 ⟨u1, u2, ru1, ru2, e⟩ => ?_
    subst e
    rw [show u1 = V.int x.1 from ru1, show u2 = V.int x.2 from ru2, ex1]
    show tSeq _ _ _ [some v, some w, some vr, some (.int ((fallF wv).take i).sum), some (.int (i : Int)), some (.int x.2)] W5.H
    refine q_augI (ε := pur) (K := K) (i := 3) (f := fun i j => i + j) (a := ((fallF wv).take i).sum) (b := x.2) rfl (ev_var (i := 5) rfl rfl) trivial fun W6 g6 => ?_
    have es : ((fallF wv).take i).sum + x.2 = ((fallF wv).take (i + 1)).sum := by
      rw [List.take_add_one, hx2, List.sum_append]
      simp
    show tIfS _ _ _ _ [some v, some w, some vr, some (.int (((fallF wv).take i).sum + x.2)), some (.int (i : Int)), some (.int x.2)] W6.H
    rw [es]
    have dv6 : DictAt K W6 v ⟨kv⟩ := (((dv3.s g4).g g5').g g5).s g6
    have e6 : EvT pur (tTest (tOp oGt (tVar 3) (tCall (sp_reach K) [] E0 (tCons (tVar 0) (tCons (tOp oAdd (tVar 4) (tC (.int 1))) tNil))))) [some v, some w, some vr, some (.int ((fallF wv).take (i + 1)).sum), some (.int (i : Int)), some (.int x.2)] W6 (decide (reachF kv ((i : Int) + 1) < ((fallF wv).take (i + 1)).sum)) :=
      et_test (ev_op (K := K) (ev_var (i := 3) (x := ((fallF wv).take (i + 1)).sum) rfl rfl) (ev_reach (i := 0) rfl dv6 ok (by omega) (ev_op (K := K) (ev_var (i := 4) (x := (i : Int)) rfl rfl) ev_int ro_I0)) ro_B0)
    refine s_when (ε := pur) e6 trivial (fun hb7 W7 g7 => ?_) (fun hb7 W7 g7 => ?_)
    · refine s_ret (ε := pur) (K := K) (x := false) ev_bl trivial fun u W8 g8 ru => ?_
      rw [show u = V.bl false from ru]
      have hf : holdsF kv wv = false := by
        unfold holdsF
        rw [Bool.and_eq_false_iff]
        right
        rw [List.all_eq_false]
        refine ⟨i, List.mem_range.mpr hi, ?_⟩
        have := of_decide_eq_true hb7
        simp only [decide_eq_true_eq]
        omega
      have := k W8 ((((((G3.trans g4.pure).trans g5').trans g5).trans g6.pure).trans g7.pure).trans g8.pure)
      rwa [hf] at this
    · refine ⟨W7, rfl, _, _, rfl, ((g5'.trans g5).trans g6.pure).trans g7.pure, fun j hj' => ?_⟩
      rcases Nat.lt_or_ge j i with h | h
      · exact hj j h
      · have : j = i := by omega
        subst this
        have := of_decide_eq_false hb7
        omega
  · rintro σ' W5 ⟨a, b, rfl, g5, hj⟩
    have hlen : ((rng 0 (fallF wv).length).zip (fallF wv)).length = (fallF wv).length := by rw [List.length_zip, rng_len]; omega
    rw [hlen] at hj
    refine s_ret (ε := pur) (K := K) (x := true) ev_bl trivial fun u W6 g6 ru => ?_
    rw [show u = V.bl true from ru]
    have hf : holdsF kv wv = true := by
      unfold holdsF
      rw [Bool.and_eq_true, List.all_eq_true]
      exact ⟨hsum, fun j hj' => decide_eq_true (hj j (List.mem_range.mp hj'))⟩
    have := k W6 (((G3.trans g4.pure).trans g5).trans g6.pure)
    rwa [hf] at this
theorem rd_above (h : sp_above K vs H Q E) : t_above K { nx := fun _ H' => Q .non H', rt := Q } (start n_above vs) H := by
  obtain ⟨W, v, kv, L, t, rfl, rfl, ⟨a, ks, rfl, hB, hH, hr⟩, nd, hl, k⟩ := h
  show t_above K _ [some (.ref a), some (.int L), some (.int t), none, none] W.H
  refine s_retM (ε := pur) (K := K) (kv := abvD kv L t) ?_ trivial fun p W' g f m => k p W' g.pure f m
  refine em_lock hH fun WL lk _ => (em_dcP (K := K) (xs := kv) (p := fun _ => true) (f := fun q => (q.1, abv q.2 L t)) (ei_items (ev_rvar (i := 0) rfl) lk.lk (KReps.mono (exExt lk.b) hr)) (fun x v u W' hx g r1 r2 => et_yes) (fun x v u W' hx _ g r1 r2 => ek_str (K := K) (ev_var (i := 3) rfl r1))
    (fun x v u W' hx _ g r1 r2 => ?_) (by omega)).is ?_
  · have e := ev_cb2 (K := K) (σ := ((wipe [some (.ref a), some (.int L), some (.int t), none, none] [3, 4]).set 3 (some v)).set 4 (some u)) (W := W') (ε := pur) (ev_var (i := 2) (x := t) rfl rfl) (ev_cb2 (K := K) (ev_int (n := 0)) (ev_op (K := K) (ev_var (i := 4) (x := x.2) rfl r2) (ev_var (i := 1) (x := L) rfl rfl) (ro_I0 (g := fun i j => i - j))) rc_max2) rc_min2
    exact e
  · rw [filter_yes]
    show kfill (abvD kv L t) = _
    refine kfill_id ?_
    unfold abvD
    rw [map_keys (f := fun q => abv q.2 L t)]
    exact nd
theorem em_above {σ : SS} {W : Wd} {tl : TE} {v : V} {kv : List (Str × Int)} {L t : Int} {i j : Nat} (h1 : σ[i]? = some (some v)) (h2 : σ[j]? = some (some (.int t))) (dv : DictAt K W v ⟨kv⟩) (nd : (kv.map (·.1)).Nodup) (hl : kv.length ≤ 1000) (he : EvR pur K tl σ W L) :
    EvM pur K (tCall (sp_above K) [] E0 (tCons (tVar i) (tCons tl (tCons (tVar j) tNil)))) σ W (abvD kv L t) := fun W1 g1 Q k =>
  ⟨_, h1, he W1 g1 _ fun u W2 g2 r => ⟨_, h2, ⟨W2, v, kv, L, t, rfl, by rw [show u = _ from r]; rfl, (dv.s g1).s g2, nd, hl, fun p W3 g3 f m => k p W3 (g2.and g3) (was_none g2.pure f) m⟩⟩⟩
end
end B
/-! law_k22: share -/
namespace B
open PySem L2
open PySem.W (Tup T3 T4 Datum DatumOrd)
open Evl (Ex)
theorem max_ex : ∀ {l : List Int}, l ≠ [] → ∃ m ∈ l, ∀ y ∈ l, y ≤ m
  | [], h => absurd rfl h
  | [a], _ => ⟨a, List.mem_cons_self, fun y hy => by rw [List.mem_singleton.mp hy]; exact Int.le_refl _⟩
  | a :: b :: r, _ => by
    obtain ⟨m, h1, h2⟩ := max_ex (l := b :: r) (fun z => by cases z)
    rcases Int.le_total a m with h | h
    · exact ⟨m, List.mem_cons_of_mem _ h1, fun y hy => by
        rcases List.mem_cons.mp hy with rfl | hy
        · exact h
        · exact h2 y hy⟩
    · exact ⟨a, List.mem_cons_self, fun y hy => by
        rcases List.mem_cons.mp hy with rfl | hy
        · exact Int.le_refl _
        · exact Int.le_trans (h2 y hy) h⟩
theorem klook_at0 {kv : List (Str × Int)} {a : Str} (h : a ∈ kv.map (·.1)) : klook kv a = some (at0 kv a) := by
  cases e : klook kv a with
  | none => exact absurd h (klook_none.mp e)
  | some x => unfold at0; rw [e]; rfl
theorem abvD_keys (kv : List (Str × Int)) (L t : Int) : (abvD kv L t).map (·.1) = kv.map (·.1) := map_keys (f := fun q => abv q.2 L t) kv
theorem q_parW {i j : Nat} {ta tb : TE} {tz : TS} {D : L2.Ends} {σ : SS} {H : Hp} (h : ta σ H fun v H1 => tb σ H1 fun u H2 => ∃ x y, [v, u] = [x, y] ∧ tz D ((σ.set i (some x)).set j (some y)) H2) : tSeq (tPar i j (tCons ta (tCons tb tNil))) tz D σ H := h
def sp_share (K : Fg) : Sp := fun vs H Q _ => ∃ (W : Wd) (v : V) (kv : List (Str × Int)) (s t : Int), W.H = H ∧ vs = [v, .int s, .int t] ∧ DictAt K W v ⟨kv⟩ ∧ (kv.map (·.1)).Nodup ∧ kv.length ≤ 60 ∧ (∃ L, IsLev kv s t L) ∧ 0 < s * t ∧ 0 ≤ t ∧ 0 ≤ s ∧ s ≤ 12 ∧
  ∀ p W', Grow W W' → W.H p = none → DMut K W' p (shareF kv s t) → Q (.ref p) W'.H
theorem len_share {K : Fg} {vs : List V} {H : Hp} {Q : VK} {E : XK} (h : sp_share K vs H Q E) : vs.length = ["left", "size", "times"].length := by
  obtain ⟨W, v, kv, s, t, _, rfl, _⟩ := h
  rfl
/-- share: the slots 0 left, 1 size, 2 times, 3 wanted, 4 low, 5 high, 6 middle, 7 taken, 8 least, 9 spare, 10 name -/
abbrev n_share : List Str := ["left", "size", "times", "wanted", "low", "high", "middle", "taken", "least", "spare", "name"]
def t_share (K : Fg) : TS := (tSeq (tPar3 3 4 5 (tCons (tOp oMul (tVar 1) (tVar 2)) (tCons (tC (.int 0)) (tCons (tCB rMaxV (tCons (tVals (tVar 0)) tNil)) tNil))))
  (tSeq (tWhile (tTest (tOp oLt (tVar 4) (tVar 5)))
  (tSeq (tAsg (tOp oDiv (tOp oAdd (tOp oAdd (tVar 4) (tVar 5)) (tC (.int 1))) (tC (.int 2))) (gName 6))
  (tIfS (tTest (tOp oGe (tCB rSumV (tCons (tVals (tCall (sp_above K) [] E0 (tCons (tVar 0) (tCons (tVar 6) (tCons (tVar 2) tNil))))) tNil)) (tVar 3))) (tAsg (tVar 6) (gName 4)) (tAsg (tOp oSub (tVar 6) (tC (.int 1))) (gName 5)))))
  (tSeq (tPar 7 8 (tCons (tCall (sp_above K) [] E0 (tCons (tVar 0) (tCons (tVar 4) (tCons (tVar 2) tNil)))) (tCons (tCall (sp_above K) [] E0 (tCons (tVar 0) (tCons (tOp oAdd (tVar 4) (tC (.int 1))) (tCons (tVar 2) tNil)))) tNil)))
  (tSeq (tAsg (tOp oSub (tCB rSumV (tCons (tVals (tVar 7)) tNil)) (tVar 3)) (gName 9))
  (tSeq (tFor (iList K (tCB rSortedDS (tCons (tVar 0) tNil))) (gName 10)
  (tIfS (tAnd (tTest (tOp oGt (tVar 9) (tC (.int 0)))) (tTest (tOp oGt (tDGet (tVar 7) (tVar 10)) (tDGet (tVar 8) (tVar 10))))) (tSeq (sDPut (tVar 7) (tVar 10) (tDGet (tVar 8) (tVar 10)))
  (tAug 9 (tC (.int 1)) (ipI fun i j => i - j))) tNext))
  (tRet (tVar 7)))))))
theorem cut_step {lo : Str → Int} {ns : List Str} {s : List (Str × Int) × Int} {i : Nat} {a : Str} (h : ns[i]? = some a) : (ns.take (i + 1)).foldl (cut1 lo) s = cut1 lo ((ns.take i).foldl (cut1 lo) s) a := by
  rw [List.take_add_one, h, List.foldl_append]
  rfl
theorem cut_keys {lo : Str → Int} : ∀ (ns : List Str) (s : List (Str × Int) × Int), (∀ a ∈ ns, a ∈ s.1.map (·.1)) → (ns.foldl (cut1 lo) s).1.map (·.1) = s.1.map (·.1)
  | [], s, _ => rfl
  | a :: ns, s, h => by
    have e : (cut1 lo s a).1.map (·.1) = s.1.map (·.1) := by
      unfold cut1
      split
      · exact kput_keys_in (h a List.mem_cons_self) _
      · rfl
    show (ns.foldl (cut1 lo) (cut1 lo s a)).1.map (·.1) = _
    rw [cut_keys ns _ fun b hb => by rw [e]; exact h b (List.mem_cons_of_mem _ hb), e]
section
variable {K : Fg} {vs : List V} {H : Hp} {Q : VK} {E : XK}
theorem rd_share (h : sp_share K vs H Q E) : t_share K { nx := fun _ H' => Q .non H', rt := Q } (start n_share vs) H := by
  obtain ⟨W, v, kv, s, t, rfl, rfl, dv, nd, hl, ⟨L0, lv0⟩, hst, ht, hs0, hs, k⟩ := h
  show t_share K _ [some v, some (.int s), some (.int t), none, none, none, none, none, none, none, none] W.H
  have ne : kv.map (·.2) ≠ [] := fun z => by
    have : kv = [] := List.map_eq_nil_iff.mp z
    have h2 := lv0.2.1
    rw [this] at h2
    have : sumV (abvD [] L0 t) = 0 := rfl
    omega
  obtain ⟨mx, hm1, hm2⟩ := max_ex ne
  refine q_par3 (ε := pur) (ev_op (K := K) (ev_var (i := 1) (x := s) rfl rfl) (ev_var (i := 2) (x := t) rfl rfl) (ro_I (g := fun i j => i * j) (.inl ⟨by omega, by omega⟩))).p (ev_int (K := K) (n := 0)).p (ev_maxV (K := K) (ev_dvar (i := 0) rfl dv) hm1 hm2).p trivial (fun v W W' g r => rep_s g r) (fun v W W' g r => rep_s g r) fun u1 u2 u3 W1 g1 r1 r2 r3 => ?_
  rw [show u1 = V.int (s * t) from r1, show u2 = V.int 0 from r2, show u3 = V.int mx from r3]
  have dv1 := dv.s g1
  have low0 : s * t ≤ sumV (abvD kv 0 t) := Int.le_trans lv0.2.1 (abvD_anti kv lv0.1)
  have hi0 : sumV (abvD kv (mx + 1) t) < s * t := by
    have : sumV (abvD kv (mx + 1) t) ≤ 0 := by
      have : ∀ l : List (Str × Int), (∀ q ∈ l, q.2 ≤ mx) → sumV (abvD l (mx + 1) t) = 0 := by
        intro l
        induction l with
        | nil => intro _; rfl
        | cons q l ih =>
          intro hq
          show abv q.2 (mx + 1) t + sumV (abvD l (mx + 1) t) = 0
          rw [ih fun x hx => hq x (List.mem_cons_of_mem _ hx), abv_top ht (by have := hq q List.mem_cons_self; omega)]
          rfl
      rw [this kv fun q hq => hm2 _ (List.mem_map_of_mem hq)]
      exact Int.le_refl _
    omega
  have mx0 : 0 ≤ mx := by
    by_cases h : 0 ≤ mx
    · exact h
    · have := abvD_anti kv (t := t) (show mx + 1 ≤ 0 by omega)
      omega
  let S : Option V → Option V → Option V → Option V → Option V → Option V → Option V → SS := fun a4 a5 a6 a7 a8 a9 a10 => [some v, some (.int s), some (.int t), some (.int (s * t)), a4, a5, a6, a7, a8, a9, a10]
  -- behind the search
  have rest : ∀ (L : Int) (v5 v6 : Option V) (W2 : Wd), Grow W1 W2 → IsLev kv s t L → (tSeq (tPar 7 8 (tCons (tCall (sp_above K) [] E0 (tCons (tVar 0) (tCons (tVar 4) (tCons (tVar 2) tNil)))) (tCons (tCall (sp_above K) [] E0 (tCons (tVar 0) (tCons (tOp oAdd (tVar 4) (tC (.int 1))) (tCons (tVar 2) tNil)))) tNil)))
  (tSeq (tAsg (tOp oSub (tCB rSumV (tCons (tVals (tVar 7)) tNil)) (tVar 3)) (gName 9))
  (tSeq (tFor (iList K (tCB rSortedDS (tCons (tVar 0) tNil))) (gName 10)
  (tIfS (tAnd (tTest (tOp oGt (tVar 9) (tC (.int 0)))) (tTest (tOp oGt (tDGet (tVar 7) (tVar 10)) (tDGet (tVar 8) (tVar 10))))) (tSeq (sDPut (tVar 7) (tVar 10) (tDGet (tVar 8) (tVar 10)))
  (tAug 9 (tC (.int 1)) (ipI fun i j => i - j))) tNext))
  (tRet (tVar 7))))) { nx := fun _ H' => Q .non H', rt := Q } (S (some (.int L)) v5 v6 none none none none) W2.H := fun L v5 v6 W2 g2 lv => by
    have dv2 := dv1.g g2
    refine q_parW (em_above (i := 0) (j := 2) (t := t) (σ := S (some (.int L)) v5 v6 none none none none) rfl rfl dv2 nd (by omega) (ev_var (i := 4) (x := L) rfl rfl) W2 (Stp.start trivial) _ fun p W3 g3 f3 m3 => em_above (i := 0) (j := 2) (t := t) (σ := S (some (.int L)) v5 v6 none none none none) rfl rfl (dv2.s g3) nd (by omega) (ev_op (K := K) (ev_var (i := 4) (x := L) rfl rfl) ev_int (ro_I0 (g := fun i j => i + j))) W3 (Stp.start trivial) _ fun q W4 g4 f4 m4 => ⟨_, _, rfl, ?_⟩)
    have pq : p ≠ q := fun z => by
      obtain ⟨ks, e, _⟩ := m3.ex
      rw [z, f4] at e
      cases e
    have m3' := m3.gr g4.pure
    show tSeq _ _ _ (S (some (.int L)) v5 v6 (some (.ref p)) (some (.ref q)) none none) W4.H
    refine q_asg (ε := pur) (K := K) (x := sumV (abvD kv L t) - s * t) (ev_op (K := K) (ev_sumVE (ev_rvar (i := 7) rfl) m3'.pur) (ev_var (i := 3) (x := s * t) rfl rfl) (ro_I0 (g := fun i j => i - j))) trivial fun v9 W5 g5 r5 => ?_
    rw [show v9 = V.int (sumV (abvD kv L t) - s * t) from r5]
    have m5 := m3'.gr g5.pure
    have n5 := m4.gr g5.pure
    have dv5 := ((dv2.s g3).s g4).s g5
    let lo := at0 (abvD kv (L + 1) t)
    let s0 : List (Str × Int) × Int := (abvD kv L t, sumV (abvD kv L t) - s * t)
    let ns := sortS (kv.map (·.1))
    have mem : ∀ a ∈ ns, a ∈ kv.map (·.1) := fun a ha => (sortS_perm _).mem_iff.mp ha
    have nsl : ns.length = kv.length := by rw [(sortS_perm _).length_eq, List.length_map]
    have keysAt : ∀ i, ((ns.take i).foldl (cut1 lo) s0).1.map (·.1) = kv.map (·.1) := fun i => by
      rw [cut_keys _ s0 fun a ha => by rw [abvD_keys]; exact mem a (List.mem_of_mem_take ha)]
      exact abvD_keys kv L t
    show tSeq _ _ _ (S (some (.int L)) v5 v6 (some (.ref p)) (some (.ref q)) (some (.int s0.2)) none) W5.H
    refine q_for (ε := pur) (K := K) (W := W5) (σ := S (some (.int L)) v5 v6 (some (.ref p)) (some (.ref q)) (some (.int s0.2)) none) (xs := ns) (ei_list (ev_sortedDS (ev_dvar (i := 0) rfl dv5).rep (by omega))) trivial fun W6 g6 =>
      ⟨fun i σ W' => ∃ a : Option V, σ = S (some (.int L)) v5 v6 (some (.ref p)) (some (.ref q)) (some (.int ((ns.take i).foldl (cut1 lo) s0).2)) a ∧ On W6 W' ∧ Md [p] W5 W' ∧ DMut K W' p ((ns.take i).foldl (cut1 lo) s0).1 ∧ DMut K W' q (abvD kv (L + 1) t),
        ⟨none, rfl, .refl _, Grow.s g6.pure, m5.gr g6.pure, n5.gr g6.pure⟩, fun i σ' W' ⟨_, _, o, _⟩ => o, ?_, ?_⟩
    · rintro i a va σ' W7' W7 hi ha ⟨b, rfl, o7', M7', m7', n7'⟩ g7 ra
      have m7 := m7'.gr g7
      have n7 := n7'.gr g7
      have M7 := M7'.trans (Grow.s g7)
      have o7 := o7'.trans g7.on
      rw [show va = V.str a from ra]
      generalize hT : (ns.take i).foldl (cut1 lo) s0 = T at m7 ⊢
      have kT : T.1.map (·.1) = kv.map (·.1) := by rw [← hT]; exact keysAt i
      have am := mem a (List.mem_of_getElem? ha)
      have l1 : klook T.1 a = some (at0 T.1 a) := klook_at0 (by rw [kT]; exact am)
      have l2 : klook (abvD kv (L + 1) t) a = some (lo a) := klook_at0 (by rw [abvD_keys]; exact am)
      show tIfS _ _ _ _ (S (some (.int L)) v5 v6 (some (.ref p)) (some (.ref q)) (some (.int T.2)) (some (.str a))) W7.H
      have eD : EvR pur K (tDGet (tVar 7) (tVar 10)) (S (some (.int L)) v5 v6 (some (.ref p)) (some (.ref q)) (some (.int T.2)) (some (.str a))) W7 (at0 T.1 a) := ev_dgetE (ev_rvar (i := 7) rfl) m7.pur (ek_str (K := K) (ev_var (i := 10) rfl rfl)) l1
      have eL : ∀ (W8 : Wd), DMut K W8 q (abvD kv (L + 1) t) → EvR pur K (tDGet (tVar 8) (tVar 10)) (S (some (.int L)) v5 v6 (some (.ref p)) (some (.ref q)) (some (.int T.2)) (some (.str a))) W8 (lo a) := fun W8 n8 => ev_dgetE (ev_rvar (i := 8) rfl) n8.pur (ek_str (K := K) (ev_var (i := 10) rfl rfl)) l2
      have et : EvT pur (tAnd (tTest (tOp oGt (tVar 9) (tC (.int 0)))) (tTest (tOp oGt (tDGet (tVar 7) (tVar 10)) (tDGet (tVar 8) (tVar 10))))) (S (some (.int L)) v5 v6 (some (.ref p)) (some (.ref q)) (some (.int T.2)) (some (.str a))) W7 (decide (0 < T.2) && decide (lo a < at0 T.1 a)) :=
        et_and (et_test (ev_op (K := K) (ev_var (i := 9) (x := T.2) rfl rfl) ev_int ro_B0)) fun _ => et_test (ev_op (K := K) eD (eL W7 n7) ro_B0)
      have ec : (ns.take (i + 1)).foldl (cut1 lo) s0 = cut1 lo T a := by rw [cut_step ha, hT]
      refine s_when (ε := pur) et trivial (fun hb W8 g8 => ?_) (fun hb W8 g8 => ?_)
      · have hb2 : 0 < T.2 ∧ lo a < at0 T.1 a := by simpa using hb
        have e1 : cut1 lo T a = (kput T.1 a (lo a), T.2 - 1) := if_pos hb2
        have tl : T.1.length < 100000 := by
          have := congrArg List.length kT
          rw [List.length_map, List.length_map] at this
          omega
        refine q_dputE (K := K) (k := a) (x := lo a) (ev_rvar (i := 7) rfl) (m7.gr g8.pure) (eL W8 (n7.gr g8.pure)) (ek_str (K := K) (ev_var (i := 10) rfl rfl)) tl fun W9 M9 o9 m9 => ?_
        refine s_augI (ε := pur) (K := K) (i := 9) (f := fun i j => i - j) (a := T.2) (b := 1) rfl ev_int trivial fun W10 g10 => ?_
        refine ⟨W10, rfl, some (.str a), ?_, ((o7.trans g8.on).trans o9).trans g10.on, ((M7.trans (Grow.s g8.pure)).trans M9).trans (Grow.s g10.pure), ?_, ((n7.gr g8.pure).g M9 (by simp; exact fun z => pq z.symm)).gr g10.pure⟩
        · rw [ec, e1]; rfl
        · rw [ec, e1]; exact m9.gr g10.pure
      · have e1 : cut1 lo T a = T := if_neg (by
          intro z
          have : (decide (0 < T.2) && decide (lo a < at0 T.1 a)) = true := by simp [z.1, z.2]
          rw [hb] at this
          cases this)
        refine ⟨W8, rfl, some (.str a), ?_, o7.trans g8.on, M7.trans (Grow.s g8.pure), ?_, n7.gr g8.pure⟩
        · rw [ec, e1]
        · rw [ec, e1]; exact m7.gr g8.pure
    · rintro σ' W7 ⟨b, rfl, o7, M7, m7, n7⟩
      rw [List.take_length] at m7
      refine ⟨_, rfl, k p W7 ?_ ?_ ?_⟩
      · have := Md.fresh (S := []) (g3.pure.trans (g4.pure.trans g5.pure)) M7 f3
        exact (g1.pure.trans g2).trans this
      · exact was_none (g1.pure.trans g2) f3
      · have : shareF kv s t = (ns.foldl (cut1 lo) s0).1 := by
          unfold shareF
          rw [lev_is lv]
        rw [this]
        exact m7
  show tWhile _ _ { nx := _, rt := _ } (S (some (.int 0)) (some (.int mx)) none none none none none) W1.H
  refine s_while (ε := pur) (W := W1) (fun m σ' W' => ∃ (lo hi : Int) (v6 : Option V), σ' = S (some (.int lo)) (some (.int hi)) v6 none none none none ∧ Grow W1 W' ∧ 0 ≤ lo ∧ lo ≤ hi ∧ s * t ≤ sumV (abvD kv lo t) ∧ sumV (abvD kv (hi + 1) t) < s * t ∧ m = (hi - lo).toNat) (mx - 0).toNat
    ⟨0, mx, none, rfl, .refl _ _, Int.le_refl _, mx0, low0, hi0, rfl⟩ ?_
  rintro m σ' W' ⟨lo, hi, v6, rfl, g2, lo0, lh, h1, h2, rfl⟩
  refine ⟨trivial, decide (lo < hi), et_test (ev_op (K := K) (ev_var (i := 4) (x := lo) rfl rfl) (ev_var (i := 5) (x := hi) rfl rfl) ro_B0), fun hb W2 g3 => ?_, fun hb W2 g3 => ?_⟩
  · have hb := of_decide_eq_true hb
    have G := g2.trans g3.pure
    show tSeq _ _ _ (S (some (.int lo)) (some (.int hi)) v6 none none none none) W2.H
    refine q_asg (ε := pur) (K := K) (x := (lo + hi + 1) / 2) (ev_op (K := K) (ev_op (K := K) (ev_op (K := K) (ev_var (i := 4) (x := lo) rfl rfl) (ev_var (i := 5) (x := hi) rfl rfl) (ro_I0 (g := fun i j => i + j))) ev_int (ro_I0 (g := fun i j => i + j))) ev_int (ro_I (g := fun i j => i / j) ⟨by decide, by decide⟩)) trivial fun vm W3 g4 rm => ?_
    rw [show vm = V.int ((lo + hi + 1) / 2) from rm]
    have hmid : lo < (lo + hi + 1) / 2 ∧ (lo + hi + 1) / 2 ≤ hi := by omega
    generalize (lo + hi + 1) / 2 = mid at hmid
    show tIfS _ _ _ _ (S (some (.int lo)) (some (.int hi)) (some (.int mid)) none none none none) W3.H
    refine s_if (ε := pur) (b := decide (s * t ≤ sumV (abvD kv mid t))) (et_test (ev_op (K := K) (ev_sumV (em_above (i := 0) (j := 2) (t := t) rfl rfl (dv1.g (G.trans g4.pure)) nd (by omega) (ev_var (i := 6) (x := mid) rfl rfl)).toD) (ev_var (i := 3) (x := s * t) rfl rfl) ro_B0)) trivial (fun hc W4 g5 => ?_) (fun hc W4 g5 => ?_)
    · refine s_asg (ε := pur) (K := K) (x := mid) (ev_var (i := 6) (x := mid) rfl rfl) trivial fun u W5 g6 ru => ?_
      rw [show u = V.int mid from ru]
      exact ⟨(hi - mid).toNat, W5, by omega, rfl, mid, hi, _, rfl, ((G.trans g4.pure).trans g5.pure).trans g6.pure, by omega, by omega, of_decide_eq_true hc, h2, rfl⟩
    · refine s_asg (ε := pur) (K := K) (x := mid - 1) (ev_op (K := K) (ev_var (i := 6) (x := mid) rfl rfl) ev_int (ro_I0 (g := fun i j => i - j))) trivial fun u W5 g6 ru => ?_
      rw [show u = V.int (mid - 1) from ru]
      have := of_decide_eq_false hc
      exact ⟨(mid - 1 - lo).toNat, W5, by omega, rfl, lo, mid - 1, _, rfl, ((G.trans g4.pure).trans g5.pure).trans g6.pure, lo0, by omega, h1, by rw [show mid - 1 + 1 = mid by omega]; omega, rfl⟩
  · have hb := of_decide_eq_false hb
    have : hi = lo := by omega
    subst this
    exact rest hi _ _ W2 (g2.trans g3.pure) ⟨lo0, h1, h2⟩
end
end B
/-! law_k22: laid -/
namespace B
open PySem L2
open PySem.W (Tup T3 T4 Datum DatumOrd)
open Evl (Ex)
def rowV (r : List Str × Int) : Tup Str × Int := (⟨r.1⟩, r.2)
def sp_laid (K : Fg) : Sp := fun vs H Q _ => ∃ (W : Wd) (v : V) (w : List (Str × Int)) (s t : Int), W.H = H ∧ vs = [v, .int s, .int t] ∧ DictAt K W v ⟨w⟩ ∧ (w.map (·.1)).Nodup ∧ w.length ≤ 60 ∧ 0 < t ∧
  ∀ u W', Grow W W' → rep K W'.B u ((laidF w t).map rowV) → Q u W'.H
theorem len_laid {K : Fg} {vs : List V} {H : Hp} {Q : VK} {E : XK} (h : sp_laid K vs H Q E) : vs.length = ["taken", "size", "times"].length := by
  obtain ⟨W, v, w, s, t, _, rfl, _⟩ := h
  rfl
/-- laid: the slots 0 taken, 1 size, 2 times, 3 begins, 4 at, 5 name, 6 ends, 7 found, 8 first, 9 last, 10 some -/
abbrev n_laid : List Str := ["taken", "size", "times", "begins", "at", "name", "ends", "found", "first", "last", "some"]
def t_laid (K : Fg) : TS := (tSeq (tAsg (tTup (tCons tDNewK (tCons (tC (.int 0)) tNil))) (gPair K 3 4))
  (tSeq (tFor (iList K (tCB rSortedDS (tCons (tVar 0) tNil))) (gName 5)
  (tSeq (sDPut (tVar 3) (tVar 5) (tOp oMod (tVar 4) (tVar 2)))
  (tAug 4 (tDGet (tVar 0) (tVar 5)) (ipI fun i j => i + j))))
  (tSeq (tPar 6 7 (tCons (BY.tSortSetL K (tOp rCat (tLst (tCons (tC (.int 0)) (tCons (tVar 2) tNil))) (tCB rListV (tCons (tVals (tVar 3)) tNil)))) (tCons (tLst tNil) tNil)))
  (tSeq (tFor (iZip K (tCons (tVar 6) (tCons (tSl (rSlL K) (tVar 6) (tPart (tC (.int 1))) tNoPart) tNil))) (gPair K 8 9)
  (tSeq (tAsg (tLc (iList K (tCB rSortedDS (tCons (tVar 0) tNil))) (gName 5) (tTest (tOp oLt (tOp oMod (tOp oSub (tVar 8) (tDGet (tVar 3) (tVar 5))) (tVar 2)) (tDGet (tVar 0) (tVar 5)))) (tVar 5) [5]) (gName 10))
  (tDrop (tBM K "list" rAppend (tVar 7) (tCons (tTup (tCons (tCB (rTupleO K) (tCons (tVar 10) tNil)) (tCons (tOp oSub (tVar 9) (tVar 8)) tNil))) tNil)))))
  (tRet (tVar 7))))))
theorem strict_uniq {a b : List Int} (ha : a.Pairwise (· < ·)) (hb : b.Pairwise (· < ·)) (h : ∀ k, k ∈ a ↔ k ∈ b) : a = b := by
  have na : a.Nodup := ha.imp fun h e => by omega
  have nb : b.Nodup := hb.imp fun h e => by omega
  exact ((List.perm_ext_iff_of_nodup na nb).mpr h).eq_of_pairwise (fun x y _ _ h1 h2 => by omega) ha hb
theorem ev_sortSetL {K : Fg} {W : Wd} {σ : SS} {ε : Ef} {te : TE} {xs ys : List Int} (h : EvR ε K te σ W xs) (hl : xs.length ≤ 4000) (hs : ys.Pairwise (· < ·)) (hm : ∀ k, k ∈ ys ↔ k ∈ xs) : EvR ε K (BY.tSortSetL K te) σ W ys := fun W1 g1 Q k => h W1 g1 _ fun v W2 g2 ⟨a, vs, e, s, r⟩ => by
  have e2 := reps_int r
  subst e2
  refine ⟨a, xs, e, SqL.of (W2.sub.el s), hl, fun ns p hn hm' hq => ?_⟩
  obtain rfl : ns = ys := strict_uniq hn hs fun k => (hm' k).trans (hm k).symm
  exact k _ (W2.add p _) (g2.and (W2.grow_add hq)) ⟨p, _, rfl, upd_same, int_reps _⟩
theorem zip_segs : ∀ E : List Int, E.zip (E.drop 1) = segs E
  | [] => rfl
  | [_] => rfl
  | a :: b :: r => by
    show (a, b) :: ((b :: r).zip r) = (a, b) :: segs (b :: r)
    rw [← zip_segs (b :: r)]
    rfl
theorem beg_snoc (w : Str → Int) (t : Int) : ∀ (z : Int) (ns : List Str) (a : Str), begF w t z (ns ++ [a]) = begF w t z ns ++ [(a, (z + sumF ns w) % t)]
  | z, [], a => by
    show [(a, z % t)] = [(a, (z + 0) % t)]
    rw [Int.add_zero]
  | z, b :: ns, a => by
    show (b, z % t) :: begF w t (z + w b) (ns ++ [a]) = (b, z % t) :: (begF w t (z + w b) ns ++ [(a, (z + (w b + sumF ns w)) % t)])
    rw [beg_snoc w t (z + w b) ns a, Int.add_assoc]
theorem sumF_snoc (w : Str → Int) (ns : List Str) (a : Str) : sumF (ns ++ [a]) w = sumF ns w + w a := by
  unfold sumF
  rw [List.map_append, List.sum_append]
  simp
section
variable {K : Fg} {vs : List V} {H : Hp} {Q : VK} {E : XK}
theorem q_newD0 {σ : SS} {W : Wd} {D : L2.Ends} {tz : TS} {a b : Nat} {n : Int} (k : ∀ p W', Grow W W' → W.H p = none → DMut K W' p ([] : List (Str × Int)) → tz D ((σ.set a (some (.ref p))).set b (some (.int n))) W'.H) :
    tSeq (tAsg (tTup (tCons tDNewK (tCons (tC (.int n)) tNil))) (gPair K a b)) tz D σ W.H := fun p hp => by
  refine ⟨Evl.sz_of (by show 2 ≤ 100000; decide), fun q hq => ?_⟩
  let W1 := W.put p (.dK []) (W.free hp)
  have hq' : W1.H q = none := hq
  exact ⟨q, [.ref p, .int n], rfl, SqT.of upd_same, rfl, .ref p, [.int n], rfl, .int n, [], rfl, rfl, k p (W1.add q (.tup [.ref p, .int n])) ((W.grow_put hp).trans (W1.grow_add hq')) hp ((DMut.new W hp).gr (W1.grow_add hq'))⟩
theorem rd_laid (h : sp_laid K vs H Q E) : t_laid K { nx := fun _ H' => Q .non H', rt := Q } (start n_laid vs) H := by
  obtain ⟨W, v, w, s, t, rfl, rfl, dv, nd, hl, ht, k⟩ := h
  obtain ⟨av, _, rfl, _⟩ := id dv
  show t_laid K _ [some (.ref av), some (.int s), some (.int t), none, none, none, none, none, none, none, none] W.H
  let f := at0 w
  let ns := sortS (w.map (·.1))
  have mem : ∀ a ∈ ns, a ∈ w.map (·.1) := fun a ha => (sortS_perm _).mem_iff.mp ha
  have nn : ns.Nodup := (sortS_perm _).nodup_iff.mpr nd
  have nsl : ns.length = w.length := by rw [(sortS_perm _).length_eq, List.length_map]
  refine q_newD0 (K := K) fun p W1 g1 f1 m1 => ?_
  have dv1 := dv.g g1
  let S : Option V → Option V → Option V → Option V → Option V → Option V → Option V → SS := fun a4 a5 a6 a7 a8 a9 a10 => [some (.ref av), some (.int s), some (.int t), some (.ref p), a4, a5, a6, a7, a8, a9, a10]
  show tSeq _ _ _ (S (some (.int 0)) none none none none none none) W1.H
  have keys : ∀ {W' : Wd} {σ : SS}, σ[0]? = some (some (.ref av)) → DictAt K W' (.ref av) ⟨w⟩ → EvR pur K (tCB rSortedDS (tCons (tVar 0) tNil)) σ W' ns := fun h d => ev_sortedDS (ev_dvar h d).rep (by omega)
  refine q_for (ε := pur) (K := K) (W := W1) (σ := S (some (.int 0)) none none none none none none) (xs := ns) (ei_list (keys rfl dv1)) trivial fun W2 g2 =>
    ⟨fun i σ W' => ∃ a : Option V, σ = S (some (.int (sumF (ns.take i) f))) a none none none none none ∧ On W2 W' ∧ Md [p] W1 W' ∧ DMut K W' p (begF f t 0 (ns.take i)),
      ⟨none, rfl, .refl _, Grow.s g2.pure, m1.gr g2.pure⟩, fun i σ' W' ⟨_, _, o, _⟩ => o, ?_, ?_⟩
  · rintro i a va σ' W3' W3 hi ha ⟨b, rfl, o3', M3', m3'⟩ g3 ra
    have m3 := m3'.gr g3
    have M3 := M3'.trans (Grow.s g3)
    have o3 := o3'.trans g3.on
    rw [show va = V.str a from ra]
    have am := mem a (List.mem_of_getElem? ha)
    have et : ns.take (i + 1) = ns.take i ++ [a] := by rw [List.take_add_one, ha]; rfl
    have anew : a ∉ (begF f t 0 (ns.take i)).map (·.1) := by
      rw [beg_keys]
      intro z
      have h1 : (ns.take (i + 1)).Nodup := (List.take_sublist _ _).nodup nn
      rw [et, List.nodup_append] at h1
      exact h1.2.2 a z a (List.mem_singleton_self a) rfl
    show tSeq _ _ _ (S (some (.int (sumF (ns.take i) f))) (some (.str a)) none none none none none) W3.H
    refine q_dputE (K := K) (k := a) (x := sumF (ns.take i) f % t) (ev_rvar (i := 3) rfl) m3 (ev_op (K := K) (ev_var (i := 4) (x := sumF (ns.take i) f) rfl rfl) (ev_var (i := 2) (x := t) rfl rfl) (ro_I (g := fun i j => i % j) ht)) (ek_str (K := K) (ev_var (i := 5) rfl rfl)) ?_ fun W4 M4 o4 m4 => ?_
    · have := congrArg List.length (beg_keys f t 0 (ns.take i))
      rw [List.length_map, List.length_take] at this
      omega
    have dv4 : DictAt K W4 (.ref av) ⟨w⟩ := (((dv1.s g2).on o3).on o4)
    have eg : EvR pur K (tDGet (tVar 0) (tVar 5)) (S (some (.int (sumF (ns.take i) f))) (some (.str a)) none none none none none) W4 (f a) :=
      ev_dgetE (ev_rvar (i := 0) rfl) dv4.stay (ek_str (K := K) (ev_var (i := 5) rfl rfl)) (klook_at0 am)
    refine s_augI (ε := pur) (K := K) (i := 4) (f := fun i j => i + j) (a := sumF (ns.take i) f) (b := f a) rfl eg trivial fun W5 g5 => ?_
    refine ⟨W5, rfl, some (.str a), ?_, (o3.trans o4).trans g5.on, (M3.trans M4).trans (Grow.s g5.pure), ?_⟩
    · rw [et, sumF_snoc]; rfl
    · have e1 : kput (begF f t 0 (ns.take i)) a (sumF (ns.take i) f % t) = begF f t 0 (ns.take (i + 1)) := by
        rw [kput_new anew, et, beg_snoc, Int.zero_add]
      rw [← e1]
      exact m4.gr g5.pure
  · rintro σ' W3 ⟨b, rfl, o3, M3, m3⟩
    rw [List.take_length] at m3 ⊢
    have G3 : Grow W W3 := Md.fresh (S := []) g1 M3 f1
    have dv3 : DictAt K W3 (.ref av) ⟨w⟩ := (dv1.s g2).on o3
    let B := begF f t 0 ns
    have Bl : B.length = w.length := by
      have := congrArg List.length (beg_keys f t 0 ns)
      rw [List.length_map] at this
      rw [this, nsl]
    let En := endF w t
    have hE : Ends f t ns En := endF_ends ht
    have Enl : En.length ≤ w.length + 2 := by
      have := end_len (w := w) ht
      rw [(sortS_perm _).length_eq, List.length_map] at this
      exact this
    show tSeq _ _ _ (S (some (.int (sumF ns f))) b none none none none none) W3.H
    have eE : EvR pur K (BY.tSortSetL K (tOp rCat (tLst (tCons (tC (.int 0)) (tCons (tVar 2) tNil))) (tCB rListV (tCons (tVals (tVar 3)) tNil)))) (S (some (.int (sumF ns f))) b none none none none none) W3 En :=
      ev_sortSetL (xs := [0, t] ++ B.map (·.2)) (ev_op (K := K) (ev_lst (ea_cons ev_int (ea_cons (ev_var (i := 2) (x := t) rfl rfl) ea_nil)) (by show 2 ≤ 100000; decide)) (ev_listVE (ev_rvar (i := 3) rfl) m3.pur) (ro_cat (by rw [List.length_map]; show 2 + B.length ≤ _; omega)))
        (by rw [List.length_append, List.length_map]; show 2 + B.length ≤ _; omega) hE.srt fun e => by
          rw [hE.mem]
          simp only [List.cons_append, List.nil_append, List.mem_cons]
          exact Iff.rfl
    refine q_parW (eE W3 (Stp.start trivial) _ fun ve W4 g4 re => en_lst (ε := pur) (K := K) (xs := ([] : List (Tup Str × Int))) ea_nil (by decide) W4 (Stp.start trivial) _ fun pf vsf W5 g5 ff bf ef rf => ⟨_, _, rfl, ?_⟩)
    have mf5 : LMut K W5 pf ([] : List (Tup Str × Int)) := ⟨bf, vsf, ef, rf⟩
    have m5 := (m3.gr g4.pure).gr g5.pure
    have dv5 := (dv3.s g4).s g5
    have re5 := rep_s g5 re
    have G5 := (G3.trans g4.pure).trans g5.pure
    have ffW : W.H pf = none := was_none (G3.trans g4.pure) ff
    have pp : p ≠ pf := fun z => by
      obtain ⟨ks, e, _⟩ := (m3.gr g4.pure).ex
      rw [z, ff] at e
      cases e
    show tSeq _ _ _ (S (some (.int (sumF ns f))) b (some ve) (some (.ref pf)) none none none) W5.H
    have ez : En.zip (cutL En (some (1 : Nat)) none) = segs En := by
      obtain ⟨r, e⟩ := (ends_shape ht hE).2
      rw [cut_from (n := 1) (by rw [e]; simp), zip_segs]
    let row : Int × Int → Tup Str × Int := fun g => rowV (ns.filter fun a => inC t g.1 (at0 B a) (f a), g.2 - g.1)
    have ej : EvJ pur K (iZip K (tCons (tVar 6) (tCons (tSl (rSlL K) (tVar 6) (tPart (tC (.int 1))) tNoPart) tNil))) (S (some (.int (sumF ns f))) b (some ve) (some (.ref pf)) none none none) W5 (segs En) := by
      rw [← ez]
      exact ei_zip (ev_var (i := 6) rfl re5) (ev_slL (ev_var (i := 6) rfl re5) (eo_some (K := K) ev_int) eo_none)
    refine q_for (ε := pur) (K := K) (W := W5) (σ := S (some (.int (sumF ns f))) b (some ve) (some (.ref pf)) none none none) (xs := segs En) ej trivial fun W6 g6 =>
      ⟨fun i σ W' => ∃ a8 a9 a10 : Option V, σ = S (some (.int (sumF ns f))) b (some ve) (some (.ref pf)) a8 a9 a10 ∧ On W6 W' ∧ Md [pf] W5 W' ∧ LMut K W' pf (((segs En).take i).map row),
        ⟨none, none, none, rfl, .refl _, Grow.s g6.pure, mf5.gr g6.pure⟩, fun i σ' W' ⟨_, _, _, _, o, _⟩ => o, ?_, ?_⟩
    · rintro i g vg σ' W7' W7 hi hg ⟨a8, a9, a10, rfl, o7', M7', l7'⟩ g7 rg
      have l7 := l7'.gr g7
      have M7 := M7'.trans (Grow.s g7)
      have o7 := o7'.trans g7.on
      refine gt_pair (i := 8) (j := 9) g vg W7 _ _ rg fun σ2 ⟨u1, u2, ru1, ru2, e⟩ => ?_
      subst e
      rw [show u1 = V.int g.1 from ru1, show u2 = V.int g.2 from ru2]
      show tSeq _ _ _ (S (some (.int (sumF ns f))) b (some ve) (some (.ref pf)) (some (.int g.1)) (some (.int g.2)) a10) W7.H
      have m7 : DMut K W7 p B := m5.g M7 (by simp; exact pp)
      have dv7 : DictAt K W7 (.ref av) ⟨w⟩ := (dv5.s g6).on o7
      refine q_asg (ε := pur) (K := K) (x := ns.filter fun a => inC t g.1 (at0 B a) (f a)) ((ev_lcNt (K := K) (xs := ns) (p := fun a => inC t g.1 (at0 B a) (f a)) (f := id) (ei_list (keys rfl dv7)).i (fun a va W' ha g8 ra => ?_) (fun a va W' ha _ g8 ra => ev_var (i := 5) rfl ra) (by omega)).is (by rw [List.map_id])) trivial fun vr W8 g8 rr => ?_
      · have aB : a ∈ B.map (·.1) := by rw [beg_keys]; exact ha
        rw [show va = V.str a from ra]
        exact et_test (ev_op (K := K) (ev_op (K := K) (ev_op (K := K) (ev_var (i := 8) (x := g.1) rfl rfl) (ev_dgetE (ev_rvar (i := 3) rfl) (m7.gr g8.pure).pur (ek_str (K := K) (ev_var (i := 5) rfl rfl)) (klook_at0 aB)) (ro_I0 (g := fun i j => i - j))) (ev_var (i := 2) (x := t) rfl rfl) (ro_I (g := fun i j => i % j) ht))
          (ev_dgetE (ev_rvar (i := 0) rfl) (dv7.s g8).stay (ek_str (K := K) (ev_var (i := 5) rfl rfl)) (klook_at0 (mem a ha))) ro_B0)
      · show tDrop _ _ (S (some (.int (sumF ns f))) b (some ve) (some (.ref pf)) (some (.int g.1)) (some (.int g.2)) (some vr)) W8.H
        refine s_append (K := K) (i := 7) (xs := ((segs En).take i).map row) (y := row g) rfl (l7.gr g8.pure) (ev_pair (ev_cb1 (ev_var (i := 10) rfl rr) rc_tupL) (ev_op (K := K) (ev_var (i := 9) (x := g.2) rfl rfl) (ev_var (i := 8) (x := g.1) rfl rfl) (ro_I0 (g := fun i j => i - j)))) ?_ fun W9 M9 o9 l9 => ?_
        · have := seg_len En
          rw [List.length_map, List.length_take]
          omega
        · refine ⟨W9, rfl, _, _, _, rfl, (o7.trans g8.on).trans o9, (M7.trans (Grow.s g8.pure)).trans M9, ?_⟩
          rw [List.take_add_one, hg, List.map_append]
          exact l9
    · rintro σ' W7 ⟨a8, a9, a10, rfl, o7, M7, l7⟩
      rw [List.take_length] at l7
      obtain ⟨o, ho, rf, ex, kf⟩ := l7.fix
      have G7 : Grow W W7 := Md.fresh (S := []) G5 M7 ffW
      refine ⟨_, rfl, k (.ref pf) (W7.fix pf o ho) (kf W [] G7 ffW) ?_⟩
      have e : (laidF w t).map rowV = (segs En).map row := by
        unfold laidF
        rw [List.map_map]
        rfl
      rw [e]
      exact rf
end
end B
/-! law_k22: heaps -/
namespace B
open PySem L2
open PySem.W (Tup T3 T4 Datum DatumOrd)
open Evl (Ex)
def downI (l : List Int) : List Int := l.mergeSort fun a b => decide (b ≤ a)
theorem downI_perm (l : List Int) : (downI l).Perm l := List.mergeSort_perm _ _
theorem downI_fall (l : List Int) : (downI l).Pairwise (· ≥ ·) := by
  have := List.pairwise_mergeSort (le := fun a b : Int => decide (b ≤ a)) (fun a b c h1 h2 => by simp only [decide_eq_true_eq] at *; omega) (fun a b => by simp only [Bool.or_eq_true, decide_eq_true_eq]; omega) l
  exact this.imp fun h => by simpa using h
def szL (kv : List (Int × Int)) : List (Int × Int) := (downI (kv.map (·.1))).map fun z => (z, at0 kv z)
theorem klook_at0G {κ : Type} [DecidableEq κ] {kv : List (κ × Int)} {a : κ} (h : a ∈ kv.map (·.1)) : klook kv a = some (at0 kv a) := by
  cases e : klook kv a with
  | none => exact absurd h (klook_none.mp e)
  | some x => unfold at0; rw [e]; rfl
theorem szL_ok {kv : List (Int × Int)} (h : SzOk kv) : SzF (szL kv) := by
  refine ⟨?_, fun q hq => ?_⟩
  · unfold szL
    rw [List.pairwise_map]
    have nd : (downI (kv.map (·.1))).Nodup := (downI_perm _).nodup_iff.mpr h.nd
    exact (downI_fall (kv.map (·.1))).imp₂ (fun {a b} h1 h2 => by show b < a; have : a ≠ b := h2; omega) nd
  · unfold szL at hq
    obtain ⟨z, hz, rfl⟩ := List.mem_map.mp hq
    have hz2 := (downI_perm _).mem_iff.mp hz
    have := klook_mem (klook_at0G hz2)
    exact h.bd _ this
theorem szL_len {kv : List (Int × Int)} (h : SzOk kv) : (szL kv).length ≤ 12 := by
  unfold szL
  rw [List.length_map, (downI_perm _).length_eq, List.length_map]
  exact h.len
def sp_heaps (K : Fg) : Sp := fun vs H Q E => (∃ (W : Wd) (v w : V) (kv : List (Int × Int)) (wv : List (Str × Int)), W.H = H ∧ vs = [v, w] ∧ DictAt K W v ⟨kv⟩ ∧ DictAt K W w ⟨wv⟩ ∧ SzOk kv ∧ (wv.map (·.1)).Nodup ∧ wv.length ≤ 60 ∧ holdsF kv wv = true ∧ Maj (sortS (wv.map (·.1))) (at0 wv) (szL kv) ∧
    ∀ u W', Grow W W' → rep K W'.B u ((heapsF (szL kv) wv).map rowV) → Q u W'.H) ∨
  (∃ (W : Wd) (v w : V) (kv : List (Int × Int)) (wv : List (Str × Int)), W.H = H ∧ vs = [v, w] ∧ DictAt K W v ⟨kv⟩ ∧ DictAt K W w ⟨wv⟩ ∧ SzOk kv ∧ wv.length ≤ 60 ∧ holdsF kv wv = false ∧ ∀ W', Grow W W' → E (.ref (cErr K "NoSum")) none W'.H)
theorem len_heaps {K : Fg} {vs : List V} {H : Hp} {Q : VK} {E : XK} (h : sp_heaps K vs H Q E) : vs.length = ["sizes", "wanted"].length := by
  rcases h with ⟨W, v, w, kv, wv, _, rfl, _⟩ | ⟨W, v, w, kv, wv, _, rfl, _⟩ <;> rfl
/-- heaps: the slots 0 sizes, 1 wanted, 2 left, 3 found, 4 size, 5 taken, 6 name, 7 number -/
abbrev n_heaps : List Str := ["sizes", "wanted", "left", "found", "size", "taken", "name", "number"]
def t_heaps (K : Fg) (E : XK) : TS := (tSeq (tIfS (tNot (tB (tCall (sp_holds K) [] E0 (tCons (tVar 0) (tCons (tVar 1) tNil))))) (BX.tRaiseO (cErr K "NoSum") E) tNext)
  (tSeq (tPar 2 3 (tCons (tCB rDictC (tCons (tVar 1) tNil)) (tCons (tLst tNil) tNil)))
  (tSeq (tFor (iList K (tCKw rSortedDRI (tCons (tVar 0) tNil) (tCons (tC (.bl true)) tNil))) (gName 4)
  (tIfS (tTest (tOp oGt (tDGet (tVar 0) (tVar 4)) (tC (.int 0)))) (tSeq (tAsg (tCall (sp_share K) [] E0 (tCons (tVar 2) (tCons (tVar 4) (tCons (tDGet (tVar 0) (tVar 4)) tNil)))) (gName 5))
  (tSeq (tLock (tAsg (tDc (iItems (tVar 2)) (gPair K 6 7) tYes (tVar 6) (tOp oSub (tVar 7) (tDGet (tVar 5) (tVar 6))) [6, 7]) (gName 2)))
  (tAug 3 (tCall (sp_laid K) [] E0 (tCons (tVar 5) (tCons (tVar 4) (tCons (tDGet (tVar 0) (tVar 4)) tNil)))) rExt2))) tNext))
  (tRet (tVar 3)))))
section
variable {K : Fg} {W WL : Wd} {σ : SS}
theorem dict_lk {κ α : Type} [PyKey κ] [Py α] {D : Dict κ α} {a d : Addr} {ks : List (Key × V)} (h : DictAt K W (.ref a) D) (ne : a ≠ d) (lk : Lk W WL d ks) : DictAt K WL (.ref a) D := by
  obtain ⟨a', k2, e, h1, h2, r⟩ := h
  cases e
  exact ⟨a, k2, rfl, lk.b _ _ h1, lk.h _ _ ne h2, KReps.mono (exExt lk.b) r⟩
theorem q_lockM {κ α : Type} [DecidableEq κ] [PyKey κ] [Py α] {D : L2.Ends} {te : TE} {tz : TS} {i : Nat} {kv : List (κ × α)} {ε : Ef} (h : EvM ε K (tLockE te) σ W kv) (s : ε.I W) (k : ∀ p W', Stp ε W W' → W.H p = none → DMut K W' p kv → tz D (σ.set i (some (.ref p))) W'.H) :
    tSeq (tLock (tAsg te (gName i))) tz D σ W.H := h W (.start s) _ fun p W' g f m => k p W' g f m
theorem s_ext {α : Type} [Py α] {D : L2.Ends} {te : TE} {i : Nat} {d : Addr} {xs ys : List α} (hd : σ[i]? = some (some (.ref d))) (m : LMut K W d xs) (h : EvR pur K te σ W ys) (hl : xs.length + ys.length ≤ 100000) (q : ∀ W', Md [d] W W' → On W W' → LMut K W' d (xs ++ ys) → D.nx (σ.set i (some (.ref d))) W'.H) : tAug i te rExt2 D σ W.H := by
  refine ⟨_, hd, h W (.start trivial) _ fun v W1 g1 ⟨b, zs, e, hb, r⟩ => ?_⟩
  subst e
  obtain ⟨vs1, e1, r1⟩ := (m.gr g1.pure).ex
  have b1 := (m.gr g1.pure).b
  exact ⟨d, b, vs1, zs, rfl, rfl, e1, W1.sub.el hb, by rw [Reps.len r1, Reps.len r]; exact Evl.sz_of hl, q (W1.put d _ b1) ((Grow.s g1.pure).trans (md_put b1)) (g1.on.trans (md_put b1).on) ⟨b1, _, upd_same, Reps.app r1 r⟩⟩
theorem ev_holds {v w : V} {kv : List (Int × Int)} {wv : List (Str × Int)} {i j : Nat} (h1 : σ[i]? = some (some v)) (h2 : σ[j]? = some (some w)) (dv : DictAt K W v ⟨kv⟩) (dw : DictAt K W w ⟨wv⟩) (ok : SzOk kv) (hl : wv.length ≤ 1000) {ε : Ef} :
    EvR ε K (tCall (sp_holds K) [] E0 (tCons (tVar i) (tCons (tVar j) tNil))) σ W (holdsF kv wv) := fun W1 g1 Q k =>
  ⟨_, h1, _, h2, W1, v, w, kv, wv, rfl, rfl, dv.s g1, dw.s g1, ok, hl, fun W2 g2 => k _ W2 (Stp.and (.start g1.i) g2) rfl⟩
theorem em_share {te tf : TE} {v : V} {kv : List (Str × Int)} {s t : Int} {i : Nat} (h1 : σ[i]? = some (some v)) (dv : DictAt K W v ⟨kv⟩) (nd : (kv.map (·.1)).Nodup) (hl : kv.length ≤ 60) (lv : ∃ L, IsLev kv s t L) (hst : 0 < s * t) (ht : 0 ≤ t) (hs : 0 ≤ s) (hs2 : s ≤ 12) (he : EvR pur K te σ W s) (hf : EvR pur K tf σ W t) :
    EvM pur K (tCall (sp_share K) [] E0 (tCons (tVar i) (tCons te (tCons tf tNil)))) σ W (shareF kv s t) := fun W1 g1 Q k =>
  ⟨_, h1, he W1 g1 _ fun u W2 g2 r => hf W2 (g1.trans g2) _ fun u2 W3 g3 r2 => ⟨W3, v, kv, s, t, rfl, by rw [show u = _ from r, show u2 = _ from r2]; rfl, ((dv.s g1).s g2).s g3, nd, hl, lv, hst, ht, hs, hs2, fun p W4 g4 f m => k p W4 ((g2.trans g3).and g4) (was_none (g2.trans g3).pure f) m⟩⟩
theorem ev_laid {te tf : TE} {v : V} {w : List (Str × Int)} {s t : Int} {i : Nat} (h1 : σ[i]? = some (some v)) (dv : DictAt K W v ⟨w⟩) (nd : (w.map (·.1)).Nodup) (hl : w.length ≤ 60) (ht : 0 < t) (he : EvR pur K te σ W s) (hf : EvR pur K tf σ W t) :
    EvR pur K (tCall (sp_laid K) [] E0 (tCons (tVar i) (tCons te (tCons tf tNil)))) σ W ((laidF w t).map rowV) := fun W1 g1 Q k =>
  ⟨_, h1, he W1 g1 _ fun u W2 g2 r => hf W2 (g1.trans g2) _ fun u2 W3 g3 r2 => ⟨W3, v, w, s, t, rfl, by rw [show u = _ from r, show u2 = _ from r2]; rfl, ((dv.s g1).s g2).s g3, nd, hl, ht, fun z W4 g4 rz => k z W4 ((g2.trans g3).and g4) rz⟩⟩
end
section
variable {K : Fg} {vs : List V} {H : Hp} {Q : VK} {E : XK}
theorem laidF_len {w : List (Str × Int)} {t : Int} (ht : 0 < t) : (laidF w t).length ≤ w.length + 2 := by
  unfold laidF
  rw [List.length_map, seg_len]
  have := end_len (w := w) ht
  rw [(sortS_perm _).length_eq, List.length_map] at this
  omega
theorem rd_heaps (h : sp_heaps K vs H Q E) : t_heaps K E { nx := fun _ H' => Q .non H', rt := Q } (start n_heaps vs) H := by
  rcases h with ⟨W, v, w, kv, wv, rfl, rfl, dv, dw, ok, nd, hl, hh, mj, k⟩ | ⟨W, v, w, kv, wv, rfl, rfl, dv, dw, ok, hl, hh, k⟩
  rotate_left
  · exact q_when (ε := pur) (b := true) ((et_not (et_B (ev_holds (i := 0) (j := 1) rfl rfl dv dw ok (by omega)))).is (by rw [hh]; rfl)) trivial (fun _ W1 g1 => k W1 g1.pure) (fun z => by cases z)
  obtain ⟨av, _, rfl, _⟩ := id dv
  show t_heaps K E _ [some (.ref av), some w, none, none, none, none, none, none] W.H
  refine q_when (ε := pur) (b := false) ((et_not (et_B (ev_holds (i := 0) (j := 1) rfl rfl dv dw ok (by omega)))).is (by rw [hh]; rfl)) trivial (fun z => by cases z) fun _ W1 g1 => ?_
  have dv1 := dv.s g1
  have dw1 := dw.s g1
  refine q_parW (ed_copy (ε := pur) (K := K) (ev_dvar (i := 1) rfl dw1).rep W1 (Stp.start trivial) _ fun vl W2 g2 dl => en_lst (ε := pur) (K := K) (xs := ([] : List (Tup Str × Int))) ea_nil (by decide) W2 (Stp.start trivial) _ fun pf vsf W3 g3 ff bf ef rf => ⟨_, _, rfl, ?_⟩)
  obtain ⟨al, _, rfl, _⟩ := id dl
  have mf3 : LMut K W3 pf ([] : List (Tup Str × Int)) := ⟨bf, vsf, ef, rf⟩
  have dl3 := dl.s g3
  have G3 := (g1.pure.trans g2.pure).trans g3.pure
  have ffW : W.H pf = none := was_none (g1.pure.trans g2.pure) ff
  have dv3 := (dv1.s g2).s g3
  let S : Option V → Option V → Option V → SS := fun a2 a4 a5 => [some (.ref av), some w, a2, some (.ref pf), a4, a5, none, none]
  let zs := downI (kv.map (·.1))
  have zl : zs.length ≤ 12 := by
    rw [(downI_perm _).length_eq, List.length_map]; exact ok.len
  have sF := szL_ok ok
  show tSeq _ _ _ (S (some (.ref al)) none none) W3.H
  refine q_for (ε := pur) (K := K) (W := W3) (σ := S (some (.ref al)) none none) (xs := zs) (ei_list (ev_sortedDR (ev_dvar (i := 0) rfl dv3) (downI_perm _) (downI_fall _))) trivial fun W4 g4 =>
    ⟨fun i σ W' => ∃ (a : Addr) (a4 a5 : Option V) (wl : List (Str × Int)) (rows : List (List Str × Int)), σ = S (some (.ref a)) a4 a5 ∧ On W4 W' ∧ Md [pf] W3 W' ∧ DictAt K W' (.ref a) ⟨wl⟩ ∧ LMut K W' pf (rows.map rowV) ∧ rows ++ heapsF ((szL kv).drop i) wl = heapsF (szL kv) wv ∧ Maj (sortS (wl.map (·.1))) (at0 wl) ((szL kv).drop i) ∧ wl.map (·.1) = wv.map (·.1) ∧ rows.length ≤ i * 62,
      ⟨al, none, none, wv, [], rfl, .refl _, Grow.s g4.pure, dl3.s g4, mf3.gr g4.pure, by rw [List.drop_zero]; rfl, by rw [List.drop_zero]; exact mj, rfl, by simp⟩, fun i σ' W' ⟨_, _, _, _, _, _, o, _⟩ => o, ?_, ?_⟩
  · rintro i z vz σ' W5' W5 hi hz ⟨a, a4, a5, wl, rows, rfl, o5', M5', dl5', l5', eq5, mj5, ky5, rl5⟩ g5 rz
    have o5 := o5'.trans g5.on
    have M5 := M5'.trans (Grow.s g5)
    have dl5 := dl5'.g g5
    have l5 := l5'.gr g5
    rw [show vz = V.int z from rz]
    have hz2 : z ∈ kv.map (·.1) := (downI_perm _).mem_iff.mp (List.mem_of_getElem? hz)
    have hdrop : (szL kv).drop i = (z, at0 kv z) :: (szL kv).drop (i + 1) := by
      have h1 : (szL kv)[i]? = some (z, at0 kv z) := by
        unfold szL
        rw [List.getElem?_map, hz]
        rfl
      obtain ⟨h2, h3⟩ := List.getElem?_eq_some_iff.mp h1
      rw [List.drop_eq_getElem_cons h2, h3]
    rw [hdrop] at eq5 mj5
    have sF5 : SzF ((z, at0 kv z) :: (szL kv).drop (i + 1)) := by
      rw [← hdrop]
      exact ⟨sF.srt.sublist (List.drop_sublist _ _), fun q hq => sF.rng q (List.mem_of_mem_drop hq)⟩
    have zr := sF5.rng _ List.mem_cons_self
    have dv5 : DictAt K W5 (.ref av) ⟨kv⟩ := (dv3.s g4).on o5
    have wlnd : (wl.map (·.1)).Nodup := by rw [ky5]; exact nd
    have wll : wl.length = wv.length := by
      have := congrArg List.length ky5
      rwa [List.length_map, List.length_map] at this
    show tIfS _ _ _ _ (S (some (.ref a)) (some (.int z)) a5) W5.H
    have eS : ∀ {W' : Wd} {a2 a5 : Option V}, DictAt K W' (.ref av) ⟨kv⟩ → EvR pur K (tDGet (tVar 0) (tVar 4)) (S a2 (some (.int z)) a5) W' (at0 kv z) := fun d => ev_dgetE (ev_rvar (i := 0) rfl) d.stay (ek_int (K := K) (ev_var (i := 4) rfl rfl)) (klook_at0G hz2)
    refine s_if (ε := pur) (b := decide (0 < at0 kv z)) (et_test (ev_op (K := K) (eS dv5) ev_int ro_B0)) trivial (fun hb W6 g6 => ?_) (fun hb W6 g6 => ?_)
    · have hp : 0 < at0 kv z := of_decide_eq_true hb
      obtain ⟨lv, tk, kyS0, mjn⟩ := share_step wlnd sF5 hp mj5
      have kyS : (shareF wl z (at0 kv z)).map (·.1) = wl.map (·.1) := kyS0
      have dl6 := dl5.s g6
      have dv6 := dv5.s g6
      have l6 := l5.gr g6.pure
      have pos : 0 < z * at0 kv z := Int.mul_pos (by omega) hp
      refine q_asgM (ε := pur) (em_share (te := tVar 4) (i := 2) rfl dl6 wlnd (by omega) lv pos (by omega) (by omega) zr.2.1 (ev_var (i := 4) rfl rfl) (eS dv6)) trivial fun p W7 g7 f7 m7 => ?_
      obtain ⟨o, ho, dt7, ex7, kf7⟩ := m7.fix
      have G7 : Grow W6 (W7.fix p o ho) := kf7 W6 [] g7.pure f7
      have na : a ≠ p := fun z => by
        obtain ⟨a', ks, e, _, h2, _⟩ := dl6
        cases e
        rw [z, f7] at h2
        cases h2
      have dl7 := dl6.g G7
      have dv7 := dv6.g G7
      have l7 := l6.gr G7
      show tSeq _ _ _ (S (some (.ref a)) (some (.int z)) (some (.ref p))) (W7.fix p o ho).H
      generalize W7.fix p o ho = W8 at *
      have kyS' : ∀ n ∈ wl.map (·.1), n ∈ (shareF wl z (at0 kv z)).map (·.1) := fun n hn => by rw [kyS]; exact hn
      obtain ⟨a', ks, e, hB, hH, hr⟩ := id dl7
      cases e
      refine q_lockM (ε := pur) (K := K) (kv := leftF wl z (at0 kv z)) ((em_lock hH fun WL lk _ => (em_dcP (K := K) (xs := wl) (p := fun _ => true) (f := fun q => (q.1, q.2 - at0 (shareF wl z (at0 kv z)) q.1)) (ei_items (ev_rvar (i := 2) rfl) lk.lk (KReps.mono (exExt lk.b) hr)) (fun x v u W' hx g r1 r2 => et_yes) (fun x v u W' hx _ g r1 r2 => ek_str (K := K) (ev_var (i := 6) rfl r1))
        (fun x v u W' hx _ g r1 r2 => ev_op (K := K) (ev_var (i := 7) (x := x.2) rfl r2) (ev_dgetE (ev_rvar (i := 5) rfl) ((dict_lk dt7 na.symm lk).s g).stay (ek_str (K := K) (ev_var (i := 6) rfl r1)) (klook_at0 (kyS' _ (List.mem_map_of_mem hx)))) (ro_I0 (g := fun i j => i - j))) (by show wl.length < 100000; omega)).is ?_)) trivial fun b W9 g9 f9 m9 => ?_
      · rw [filter_yes]
        show kfill (leftF wl z (at0 kv z)) = _
        exact kfill_id (by rw [left_keys]; exact wlnd)
      obtain ⟨o9, ho9, dl9, ex9, kf9⟩ := m9.fix
      have G9 : Grow W8 (W9.fix b o9 ho9) := kf9 W8 [] g9.pure f9
      have dt9 := dt7.g G9
      have dv9 := dv7.g G9
      have l9 := l7.gr G9
      show tAug _ _ _ _ (S (some (.ref b)) (some (.int z)) (some (.ref p))) (W9.fix b o9 ho9).H
      generalize W9.fix b o9 ho9 = W10 at *
      have shl : (shareF wl z (at0 kv z)).length ≤ 60 := by
        have := congrArg List.length kyS
        rw [List.length_map, List.length_map] at this
        omega
      have ll := laidF_len (w := shareF wl z (at0 kv z)) hp
      refine s_ext (K := K) (i := 3) (xs := rows.map rowV) (ys := (laidF (shareF wl z (at0 kv z)) (at0 kv z)).map rowV) rfl l9 (ev_laid (te := tVar 4) (i := 5) rfl dt9 (by rw [kyS]; exact wlnd) shl hp (ev_var (i := 4) rfl rfl) (eS dv9)) ?_ fun W11 M11 o11 l11 => ?_
      · rw [List.length_map, List.length_map]
        have : i < 12 := by omega
        omega
      · have GG : Grow W5 W10 := (g6.pure.trans G7).trans G9
        refine ⟨W11, rfl, b, _, _, leftF wl z (at0 kv z), rows ++ laidF (shareF wl z (at0 kv z)) (at0 kv z), rfl, (o5.trans GG.on).trans o11, (M5.trans (Grow.s GG)).trans M11, dl9.on o11, by rw [List.map_append]; exact l11, ?_, mjn, ?_, ?_⟩
        · rw [List.append_assoc, ← eq5]
          congr 1
          show _ = if 0 < at0 kv z then _ else _
          rw [if_pos hp]
        · rw [left_keys]; exact ky5
        · rw [List.length_append]; omega
    · have hn := of_decide_eq_false hb
      have h0 : at0 kv z = 0 := by omega
      refine ⟨W6, rfl, a, _, _, wl, rows, rfl, o5.trans g6.on, M5.trans (Grow.s g6.pure), dl5.s g6, l5.gr g6.pure, ?_, ?_, ky5, by omega⟩
      · rw [← eq5]
        congr 1
        show _ = if 0 < at0 kv z then _ else _
        rw [if_neg hn]
      · rw [h0] at mj5
        exact maj_zero mj5
  · rintro σ' W5 ⟨a, a4, a5, wl, rows, rfl, o5, M5, dl5, l5, eq5, mj5, ky5, rl5⟩
    have e : (szL kv).drop zs.length = [] := by
      apply List.drop_eq_nil_of_le
      unfold szL
      rw [List.length_map]
      exact Nat.le_refl _
    rw [e] at eq5
    have e2 : rows = heapsF (szL kv) wv := by
      rw [← eq5]
      exact (List.append_nil _).symm
    obtain ⟨o, ho, rf, ex, kf⟩ := l5.fix
    have G5 : Grow W W5 := Md.fresh (S := []) G3 M5 ffW
    refine ⟨_, rfl, k (.ref pf) (W5.fix pf o ho) (kf W [] G5 ffW) ?_⟩
    rw [← e2]
    exact rf
end
end B
/-! law_k22: sizes, and what drawn sets of them come to -/
namespace B
open PySem L2
open PySem.W (Tup T3 T4 Datum DatumOrd)
open Evl (Ex)
abbrev qLam (x : Str) : Str := x ++ ".<locals>." ++ "<lambda>"
/-- drawn: sizes and what is wanted, by m sets at most -/
structure DOk (names : List Str) (kv : List (Int × Int)) (wv : List (Str × Int)) (m : Nat) : Prop where
  ok : SzOk kv
  ky : wv.map (·.1) = names
  dl : Dlt names (at0 wv) kv
  ge : ∀ a ∈ names, 0 ≤ at0 wv a
  bd : ∀ q ∈ kv, q.2 ≤ 100000000 * (m : Int)
theorem at0_kput {κ : Type} [DecidableEq κ] (kv : List (κ × Int)) (k j : κ) (v : Int) : at0 (kput kv k v) j = if j = k then v else at0 kv j := by
  unfold at0
  rw [klook_put]
  split <;> rfl
theorem SzOk.put {kv : List (Int × Int)} (h : SzOk kv) {z t : Int} (h1 : 1 ≤ z) (h2 : z ≤ 12) (h3 : 0 ≤ t) : SzOk (kput kv z t) := by
  refine ⟨fun q hq => ?_, kput_keys_nodup h.nd⟩
  rcases kput_mem hq with e | e
  · exact h.bd q e
  · rw [e]; exact ⟨h1, h2, h3⟩
theorem SzOk.at0 {kv : List (Int × Int)} (h : SzOk kv) (z : Int) : 0 ≤ at0 kv z := by
  unfold B.at0
  cases e : klook kv z with
  | none => exact Int.le_refl _
  | some x => exact (h.bd _ (klook_mem e)).2.2
theorem at0_bd {kv : List (Int × Int)} {b : Int} (h : ∀ q ∈ kv, q.2 ≤ b) (h0 : 0 ≤ b) (z : Int) : at0 kv z ≤ b := by
  unfold at0
  cases e : klook kv z with
  | none => exact h0
  | some x => exact h _ (klook_mem e)
theorem DOk.more {names P : List Str} {kv : List (Int × Int)} {wv wv' : List (Str × Int)} {m : Nat} (h : DOk names kv wv m) (nA : names.Nodup) {t : Int} (t0 : 0 ≤ t) (t1 : t ≤ 100000000) (nP : P.Nodup) (hP : ∀ a ∈ P, a ∈ names) (l1 : 1 ≤ P.length) (l2 : P.length ≤ 12)
    (ky : wv'.map (·.1) = names) (hx : ∀ a ∈ names, at0 wv' a = at0 wv a + if a ∈ P then t else 0) : DOk names (kput kv (P.length : Int) (at0 kv (P.length : Int) + t)) wv' (m + 1) := by
  have h0 := h.ok.at0 (P.length : Int)
  refine ⟨h.ok.put (by omega) (by omega) (by omega), ky, dlt_more nA h.dl h.ok.nd t0 nP hP l2 hx, fun a ha => ?_, fun q hq => ?_⟩
  · rw [hx a ha]
    have := h.ge a ha
    split <;> omega
  · have h1 := at0_bd h.bd (by omega) (P.length : Int)
    rcases kput_mem hq with e | e
    · have := h.bd q e
      omega
    · rw [e]
      show at0 kv _ + t ≤ _
      omega
theorem DOk.zero {names : List Str} {kv : List (Int × Int)} {wv : List (Str × Int)} {m : Nat} (h : DOk names kv wv m) {z : Int} (h1 : 1 ≤ z) (h2 : z ≤ 12) (hz : z ∉ kv.map (·.1)) : DOk names (kput kv z 0) wv m := by
  refine ⟨h.ok.put h1 h2 (Int.le_refl _), h.ky, dlt_zero h.dl h.ok.nd hz, h.ge, fun q hq => ?_⟩
  rcases kput_mem hq with e | e
  · exact h.bd q e
  · rw [e]; show (0 : Int) ≤ _; omega
theorem DOk.up {names : List Str} {kv : List (Int × Int)} {wv : List (Str × Int)} {m n : Nat} (h : DOk names kv wv m) (hm : m ≤ n) : DOk names kv wv n := ⟨h.ok, h.ky, h.dl, h.ge, fun q hq => by have := h.bd q hq; omega⟩
theorem dok_nil (names : List Str) (nA : names.Nodup) : DOk names [] (names.map fun n => (n, 0)) 0 := by
  have e : ∀ a, at0 (names.map fun n => (n, (0 : Int))) a = 0 := fun a => by
    unfold at0
    cases e : klook (names.map fun n => (n, (0 : Int))) a with
    | none => rfl
    | some x =>
      obtain ⟨n, _, hn⟩ := List.mem_map.mp (klook_mem e)
      cases hn
      rfl
  refine ⟨⟨fun q hq => (by cases hq), List.nodup_nil⟩, ?_, ?_, fun a _ => by rw [e]; exact Int.le_refl _, fun q hq => (by cases hq)⟩
  · rw [List.map_map]; exact List.map_id _
  · have := dlt_nil names
    rw [show (fun _ => 0 : Str → Int) = at0 (names.map fun n => (n, (0 : Int))) from funext fun a => (e a).symm] at this
    exact this
def sp__law_dealt (K : Fg) : Sp := fun vs H Q _ => ∃ (W : Wd) (p c : Addr) (v : V) (names : List Str), W.H = H ∧ vs = [.ref p, v] ∧ St W p c ∧ rep K W.B v names ∧ names.Nodup ∧ 1 ≤ names.length ∧ names.length ≤ 12 ∧
  ∀ t l d kv wv W', Md [p, c] W W' → St W' p c → W.H l = none → W.H d = none → l ≠ d → DMut K W' l kv → DMut K W' d wv → DOk names kv wv 16 → W'.H t = some (.tup [.ref l, .ref d]) → Q (.ref t) W'.H
theorem len__law_dealt {K : Fg} {vs : List V} {H : Hp} {Q : VK} {E : XK} (h : sp__law_dealt K vs H Q E) : vs.length = ["_law_state", "_law_names_here"].length := by
  obtain ⟨W, p, c, v, names, _, rfl, _⟩ := h
  rfl
/-- _law_dealt: the slots 0 _law_state, 1 _law_names_here, 2 _law_lots, 3 _law_need, 4 _law_name, 5 _law_k, 6 _law_size, 7 _law_later_turn, 8 _law_left, 9 _law_times, 10 _law_one -/
abbrev n__law_dealt : List Str := ["_law_state", "_law_names_here", "_law_lots", "_law_need", "_law_name", "_law_k", "_law_size", "_law_later_turn", "_law_left", "_law_times", "_law_one"]
def t__law_dealt (K : Fg) : TS := (tSeq (tPar 2 3 (tCons tDNewK (tCons (tCB (rDictP K) (tCons (tLc (iList K (tVar 1)) (gName 4) tYes (tTup (tCons (tVar 4) (tCons (tC (.int 0)) tNil))) [4]) tNil)) tNil)))
  (tSeq (tFor (iRng1 (tCons (tCall (sp__law_draw K) [] E0 (tCons (tVar 0) (tCons (tC (.int 5)) tNil))) tNil)) (gName 5)
  (tSeq (tAsg (tOp oAdd (tC (.int 1)) (tCall (sp__law_draw K) [] E0 (tCons (tVar 0) (tCons (tCB (rLen K) (tCons (tVar 1) tNil)) tNil)))) (gName 6))
  (tFor (iRng1 (tCons (tOp oAdd (tC (.int 1)) (tCall (sp__law_draw K) [] E0 (tCons (tVar 0) (tCons (tC (.int 4)) tNil)))) tNil)) (gName 7)
  (tSeq (tPar 8 9 (tCons (tCB (rListO K) (tCons (tVar 1) tNil)) (tCons (tOp oAdd (tC (.int 1)) (tCall (sp__law_draw K) [] E0 (tCons (tVar 0) (tCons (tCall (sp__law_pick K) [] E0 (tCons (tVar 0) (tCons (tLst (tCons (tC (.int 1)) (tCons (tC (.int 3)) (tCons (tC (.int 40)) (tCons (tOp oPow (tC (.int 10)) (tC (.int 8))) tNil))))) tNil))) tNil)))) tNil)))
  (tSeq (tFor (iRng1 (tCons (tVar 6) tNil)) (gName 10)
  (tSeq (tAsg (tBM K "list" rPopAt (tVar 8) (tCons (tCall (sp__law_draw K) [] E0 (tCons (tVar 0) (tCons (tCB (rLen K) (tCons (tVar 8) tNil)) tNil))) tNil)) (gName 4))
  (sDPut (tVar 3) (tVar 4) (tOp oAdd (tDGet (tVar 3) (tVar 4)) (tVar 9)))))
  (sDPut (tVar 2) (tVar 6) (tOp oAdd (tDGet2 (tVar 2) (tVar 6) (tC (.int 0))) (tVar 9))))))))
  (tSeq (tFor (iRng1 (tCons (tCall (sp__law_draw K) [] E0 (tCons (tVar 0) (tCons (tC (.int 3)) tNil))) tNil)) (gName 5)
  (tDrop (tDSetd (tVar 2) (tOp oAdd (tC (.int 1)) (tCall (sp__law_draw K) [] E0 (tCons (tVar 0) (tCons (tC (.int 12)) tNil)))) (tC (.int 0)))))
  (tRet (tTup (tCons (tVar 2) (tCons (tVar 3) tNil)))))))
section
variable {K : Fg} {vs : List V} {H : Hp} {Q : VK} {E : XK}
theorem tsome {H : Hp} {a : Addr} {o : HO} (h : H a = some o) (z : H a = none) : False := by rw [h] at z; cases z
theorem DMut.isn {κ α : Type} [PyKey κ] [Py α] {W : Wd} {d : Addr} {kv : List (κ × α)} (m : DMut K W d kv) (z : W.H d = none) : False := by
  obtain ⟨ks, e, _⟩ := m.ex
  exact tsome e z
theorem rd__law_dealt (h : sp__law_dealt K vs H Q E) : t__law_dealt K { nx := fun _ H' => Q .non H', rt := Q } (start n__law_dealt vs) H := by
  obtain ⟨W, p, c, v, names, rfl, rfl, st, rv, nA, n1, n12, k⟩ := h
  show t__law_dealt K _ [some (.ref p), some v, none, none, none, none, none, none, none, none, none] W.H
  refine q_parW (em_new (ε := pur) (K := K) (κ := Int) (α := Int) W (Stp.start trivial) _ fun l W1 g1 fl ml => em_dictP (ε := pur) (K := K) (κ := Str) (α := Int) (xs := names.map fun n => (n, (0 : Int))) (EvN.toR (en_lcN (K := K) (xs := names) (f := fun n => (n, (0 : Int))) (ei_list (ev_var (i := 1) rfl (rep_s g1 rv))).i (fun x v W' hx g r => ev_pair (ev_var (i := 4) rfl r) ev_int) (by omega))) W1 (Stp.start trivial) _ fun d W2 g2 fd md => ⟨_, _, rfl, ?_⟩)
  have ld : l ≠ d := fun z => ml.isn (by rw [z]; exact fd)
  have flW : W.H l = none := fl
  have fdW : W.H d = none := was_none g1.pure fd
  have lp : l ≠ p := fun z => st.dom.1 (by rw [← z]; exact flW)
  have lc : l ≠ c := fun z => st.dom.2 (by rw [← z]; exact flW)
  have dp : d ≠ p := fun z => st.dom.1 (by rw [← z]; exact fdW)
  have dc : d ≠ c := fun z => st.dom.2 (by rw [← z]; exact fdW)
  have lS : l ∉ (drw p c).S := by simp [drw, lp, lc]
  have dS : d ∉ (drw p c).S := by simp [drw, dp, dc]
  have lS' : l ∉ [p, c] := by simp [lp, lc]
  have dS' : d ∉ [p, c] := by simp [dp, dc]
  have kf : kfill (names.map fun n => (n, (0 : Int))) = names.map fun n => (n, (0 : Int)) := kfill_id (by rw [List.map_map]; exact (List.map_id names).symm ▸ nA)
  rw [kf] at md
  have ml2 := ml.gr g2.pure
  have G2 := g1.pure.trans g2.pure
  have st2 := st.g G2
  have rv2 := rep_g G2 rv
  let S : Option V → Option V → Option V → Option V → Option V → Option V → Option V → SS := fun a4 a5 a6 a7 a8 a9 a10 => [some (.ref p), some v, some (.ref l), some (.ref d), a4, a5, a6, a7, a8, a9, a10]
  show tSeq _ _ _ (S none none none none none none none) W2.H
  -- the sizes of nought lots, and the end
  have rest : ∀ (W3 : Wd) (kv : List (Int × Int)) (wv : List (Str × Int)) (a4 a5 a6 a7 a8 a9 a10 : Option V), Md [p, c] W W3 → St W3 p c → DMut K W3 l kv → DMut K W3 d wv → DOk names kv wv 16 → (tSeq (tFor (iRng1 (tCons (tCall (sp__law_draw K) [] E0 (tCons (tVar 0) (tCons (tC (.int 3)) tNil))) tNil)) (gName 5)
  (tDrop (tDSetd (tVar 2) (tOp oAdd (tC (.int 1)) (tCall (sp__law_draw K) [] E0 (tCons (tVar 0) (tCons (tC (.int 12)) tNil)))) (tC (.int 0)))))
  (tRet (tTup (tCons (tVar 2) (tCons (tVar 3) tNil))))) { nx := fun _ H' => Q .non H', rt := Q } (S a4 a5 a6 a7 a8 a9 a10) W3.H := fun W3 kv wv a4 a5 a6 a7 a8 a9 a10 M3 s3 ml3 md3 ok3 => by
    refine q_forD (ε := drw p c) (K := K) (W := W3) (σ := S a4 a5 a6 a7 a8 a9 a10) (ex_draw (i := 0) (n := 3) rfl ev_int (by decide) (by decide)) (fun n h => by omega) s3 fun n W4 hn g4 =>
      ⟨fun i σ W' => ∃ (a5 : Option V) (kv : List (Int × Int)), σ = S a4 a5 a6 a7 a8 a9 a10 ∧ On W4 W' ∧ Md [p, c] W W' ∧ St W' p c ∧ DMut K W' l kv ∧ DMut K W' d wv ∧ DOk names kv wv 16,
        ⟨a5, kv, rfl, .refl _, M3.trans g4.md, g4.i, ml3.g g4.md lS, md3.g g4.md dS, ok3⟩, fun i σ' W' ⟨_, _, _, o, _⟩ => o, ?_, ?_⟩
    · rintro i σ' W5 hi ⟨b5, kv5, rfl, o5, M5, s5, ml5, md5, ok5⟩
      show tDrop _ _ (S a4 (some (.int (i : Int))) a6 a7 a8 a9 a10) W5.H
      obtain ⟨ks5, hk5, _⟩ := ml5.ex
      refine ⟨_, rfl, l, rfl, .inl ⟨ks5, .inl hk5⟩, ex_addD (m := 1) (ex_draw (K := K) (p := p) (c := c) (i := 0) (n := 12) rfl ev_int (by decide) (by decide)) W5 (.start s5) _ fun u W6 g6 ⟨z, ⟨r, hr, ez⟩, ru⟩ => ?_⟩
      have ml6 := ml5.g g6.md lS
      have md6 := md5.g g6.md dS
      obtain ⟨ks6, hk6, rk6⟩ := ml6.ex
      have kl : kv5.length ≤ 12 := ok5.ok.len
      refine ⟨ks6, PyKey.key z, hk6, show u = V.int z from ru, by rw [KReps.len rk6]; exact Evl.sz_lt (by omega), fun w hw => ?_, fun hw => ?_⟩
      · exact ⟨W6, rfl, _, kv5, rfl, o5.trans g6.on, M5.trans g6.md, g6.i, ml6, md6, ok5⟩
      · have zn : z ∉ kv5.map (·.1) := by
          rcases klk rk6 z with ⟨e, _⟩ | ⟨x, w, _, e2, _⟩
          · exact klook_none.mp e
          · rw [hw] at e2; cases e2
        let W7 := W6.put l (.dK (putK ks6 (PyKey.key z) (.int 0))) ml6.b
        have M7 : Md [l] W6 W7 := md_put ml6.b
        refine ⟨W7, rfl, _, kput kv5 z 0, rfl, (o5.trans g6.on).trans M7.on, Md.fresh (M5.trans g6.md) (M7.mono (by simp)) flW, (show St W6 p c from g6.i).off M7 (by simp [lp.symm]) (by simp [lc.symm]), ⟨ml6.b, _, upd_same, KReps.put rk6 z rfl⟩, md6.g M7 (by simp [ld.symm]), ok5.zero (by omega) (by omega) zn⟩
    · rintro σ' W5 ⟨b5, kv5, rfl, o5, M5, s5, ml5, md5, ok5⟩
      refine ⟨_, rfl, _, rfl, Evl.sz_of (by show 2 ≤ 100000; decide), fun t ht => ?_⟩
      have g6 : Grow W5 (W5.add t (.tup [.ref l, .ref d])) := W5.grow_add ht
      exact k t l d kv5 wv (W5.add t (.tup [.ref l, .ref d])) (M5.trans (Grow.s g6)) (s5.g g6) flW fdW ld (ml5.gr g6) (md5.gr g6) ok5 upd_same
  refine q_forD (ε := drw p c) (K := K) (W := W2) (σ := S none none none none none none none) (ex_draw (i := 0) (n := 5) rfl ev_int (by decide) (by decide)) (fun n h => by omega) st2 fun n W3 hn g3 =>
    ⟨fun i σ W' => ∃ (a4 a5 a6 a7 a8 a9 a10 : Option V) (kv : List (Int × Int)) (wv : List (Str × Int)), σ = S a4 a5 a6 a7 a8 a9 a10 ∧ On W3 W' ∧ Md [p, c] W W' ∧ St W' p c ∧ DMut K W' l kv ∧ DMut K W' d wv ∧ DOk names kv wv (4 * i),
      ⟨none, none, none, none, none, none, none, [], _, rfl, .refl _, (Grow.s G2).trans g3.md, g3.i, ml2.g g3.md lS, md.g g3.md dS, dok_nil names nA⟩, fun i σ' W' ⟨_, _, _, _, _, _, _, _, _, _, o, _⟩ => o, ?_, ?_⟩
  · rintro i σ' W5 hi ⟨a4, a5, a6, a7, a8, a9, a10, kv, wv, rfl, o5, M5, s5, ml5, md5, ok5⟩
    have rv5 : rep K W5.B v names := rep_on (g3.on.trans o5) rv2
    show tSeq _ _ _ (S a4 (some (.int (i : Int))) a6 a7 a8 a9 a10) W5.H
    refine q_asgP (ε := drw p c) (W := W5) (σ := S a4 (some (.int (i : Int))) a6 a7 a8 a9 a10) (ex_addD (m := 1) (ex_draw (K := K) (p := p) (c := c) (i := 0) (n := (names.length : Int)) rfl (ev_cb1 (ev_var (i := 1) rfl rv5) rc_len) (by omega) (by omega))) s5 fun vz W6 g6 ⟨z, ⟨r, hr, ez⟩, rz⟩ => ?_
    rw [show vz = V.int z from rz]
    obtain ⟨s, rfl⟩ : ∃ s : Nat, z = s := ⟨z.toNat, by omega⟩
    have hs1 : 1 ≤ s ∧ s ≤ names.length := by omega
    have s6 : St W6 p c := g6.i
    show tFor _ _ _ _ (S a4 (some (.int (i : Int))) (some (.int s)) a7 a8 a9 a10) W6.H
    refine s_forD (ε := drw p c) (K := K) (W := W6) (σ := S a4 (some (.int (i : Int))) (some (.int s)) a7 a8 a9 a10) (ex_addD (m := 1) (ex_draw (K := K) (p := p) (c := c) (i := 0) (n := 4) rfl ev_int (by decide) (by decide))) (fun n ⟨m, h, e⟩ => by omega) s6 fun n2 W7 hn2 g7 =>
      ⟨fun j σ W' => ∃ (a4 a7 a8 a9 a10 : Option V) (kv : List (Int × Int)) (wv : List (Str × Int)), σ = S a4 (some (.int (i : Int))) (some (.int s)) a7 a8 a9 a10 ∧ On W7 W' ∧ Md [p, c] W W' ∧ St W' p c ∧ DMut K W' l kv ∧ DMut K W' d wv ∧ DOk names kv wv (4 * i + j),
        ⟨a4, a7, a8, a9, a10, kv, wv, rfl, .refl _, (M5.trans g6.md).trans g7.md, g7.i, (ml5.g g6.md lS).g g7.md lS, (md5.g g6.md dS).g g7.md dS, ok5⟩, fun j σ' W' ⟨_, _, _, _, _, _, _, _, o, _⟩ => o, ?_, ?_⟩
    · rintro j σ' W8 hj ⟨b4, b7, b8, b9, b10, kv8, wv8, rfl, o8, M8, s8, ml8, md8, ok8⟩
      have o38 : On W3 W8 := ((o5.trans g6.on).trans g7.on).trans o8
      have rv8 : rep K W8.B v names := rep_on (g3.on.trans o38) rv2
      show tSeq _ _ _ (S b4 (some (.int (i : Int))) (some (.int s)) (some (.int (j : Int))) b8 b9 b10) W8.H
      refine q_parW (en_listO (ε := drw p c) (K := K) (σ := S b4 (some (.int (i : Int))) (some (.int s)) (some (.int (j : Int))) b8 b9 b10) (ev_var (i := 1) rfl rv8) W8 (Stp.start s8) _ fun sl us W9 g9 fsl bsl esl rsl => ex_addD (m := 1) (ev_drawX (K := K) (p := p) (c := c) (i := 0) (P := fun x : Int => 1 ≤ x ∧ x ≤ 100000000) (σ := S b4 (some (.int (i : Int))) (some (.int s)) (some (.int (j : Int))) b8 b9 b10) rfl (ex_pick (α := Int) (i := 0) (R := fun xs : List Int => xs = [1, 3, 40, 100000000]) rfl (ex_of (ev_lst (ea_cons ev_int (ea_cons ev_int (ea_cons ev_int (ea_cons (EvR.is (ev_op (K := K) ev_int ev_int (ro_I (g := fun i j => i ^ j.toNat) ⟨by decide, by decide, by decide⟩)) (by decide)) ea_nil)))) (by show 4 ≤ 100000; decide)) rfl) (fun xs e => by
        subst e
        refine ⟨by simp, by show 4 < 100000; decide, fun x hx => ?_⟩
        simp only [List.mem_cons, List.not_mem_nil, or_false] at hx
        omega)) (fun n h => by omega)) W9 (Stp.start g9.i) _ fun vt W10 g10 ⟨t, ⟨r', ⟨n', hn', hr'⟩, et⟩, rt⟩ => ⟨_, _, rfl, ?_⟩)
      rw [show vt = V.int t from rt]
      have ht : 1 ≤ t ∧ t ≤ 100000000 := by omega
      have fslW : W.H sl = none := was_none M8 fsl
      have slp : sl ≠ p := fun z => st.dom.1 (by rw [← z]; exact fslW)
      have slc : sl ≠ c := fun z => st.dom.2 (by rw [← z]; exact fslW)
      have sll : sl ≠ l := fun z => ml8.isn (by rw [← z]; exact fsl)
      have sld : sl ≠ d := fun z => md8.isn (by rw [← z]; exact fsl)
      have slS : sl ∉ (drw p c).S := by simp [drw, slp, slc]
      have mx9 : LMut K W9 sl names := ⟨bsl, us, esl, rsl⟩
      have g810 := g9.trans g10
      have s10 : St W10 p c := g10.i
      have mx10 := mx9.g g10.md slS
      have ml10 := ml8.g g810.md lS
      have md10 := md8.g g810.md dS
      have M10 := M8.trans g810.md
      show tSeq _ _ _ (S b4 (some (.int (i : Int))) (some (.int s)) (some (.int (j : Int))) (some (.ref sl)) (some (.int t)) b10) W10.H
      refine q_for (ε := pur) (K := K) (W := W10) (σ := S b4 (some (.int (i : Int))) (some (.int s)) (some (.int (j : Int))) (some (.ref sl)) (some (.int t)) b10) (xs := rng 0 s) (ei_rng1 (n := (s : Int)) (ev_var (i := 6) rfl rfl) (by omega) (by omega)) trivial fun W11 g11 =>
        ⟨fun u σ W' => ∃ (a4 a10 : Option V) (xs ys : List Str) (wv' : List (Str × Int)), σ = S a4 (some (.int (i : Int))) (some (.int s)) (some (.int (j : Int))) (some (.ref sl)) (some (.int t)) a10 ∧ On W11 W' ∧ Md [p, c] W W' ∧ St W' p c ∧ DMut K W' l kv8 ∧ DMut K W' d wv' ∧ LMut K W' sl xs ∧ (ys ++ xs).Perm names ∧ ys.length = u ∧ wv'.map (·.1) = names ∧ ∀ a ∈ names, at0 wv' a = at0 wv8 a + if a ∈ ys then t else 0,
          ⟨b4, b10, names, [], wv8, rfl, .refl _, M10.trans (Grow.s g11.pure), s10.g g11.pure, ml10.gr g11.pure, md10.gr g11.pure, mx10.gr g11.pure, .refl _, rfl, ok8.ky, fun a _ => by simp⟩, fun u σ' W' ⟨_, _, _, _, _, _, o, _⟩ => o, ?_, ?_⟩
      · rintro u x vx σ' W12' W12 hu hx ⟨e4, e10, xs, ys, wv', rfl, o12', M12', s12', ml12', md12', mx12', pm, yl, ky, hw⟩ g12 rx
        have o12 := o12'.trans g12.on
        have M12 := M12'.trans (Grow.s g12)
        have s12 := s12'.g g12
        have ml12 := ml12'.gr g12
        have md12 := md12'.gr g12
        have mx12 := mx12'.gr g12
        rw [rng_len] at hu
        have xl : xs.length + u = names.length := by
          have := pm.length_eq
          rw [List.length_append] at this
          omega
        show tSeq _ _ _ (S e4 (some (.int (i : Int))) (some (.int s)) (some (.int (j : Int))) (some (.ref sl)) (some (.int t)) (some vx)) W12.H
        refine q_popD (K := K) (p := p) (c := c) (i := 8) (j := 4) rfl mx12 slS s12 (ex_draw (K := K) (i := 0) (n := (xs.length : Int)) rfl (ev_lenM (i := 8) rfl mx12 slS) (by omega) (by omega)) (by omega) fun n hn vn W13 M13 s13 rn mx13 => ?_
        rw [show vn = V.str xs[n] from rn]
        have xin : xs[n] ∈ names := pm.mem_iff.mp (List.mem_append_right _ (List.getElem_mem hn))
        have ndp : (ys ++ xs).Nodup := pm.nodup_iff.mpr nA
        have xny : xs[n] ∉ ys := fun z => (List.nodup_append.mp ndp).2.2 _ z _ (List.getElem_mem hn) rfl
        have dn : d ∉ [sl, p, c] := by simp [sld.symm, dp, dc]
        have ln : l ∉ [sl, p, c] := by simp [sll.symm, lp, lc]
        have md13 := md12.g M13 dn
        have ml13 := ml12.g M13 ln
        show sDPut _ _ _ _ (S (some (.str xs[n])) (some (.int (i : Int))) (some (.int s)) (some (.int (j : Int))) (some (.ref sl)) (some (.int t)) (some vx)) W13.H
        have kyl : wv'.length = names.length := by rw [← ky, List.length_map]
        refine s_dputE (K := K) (k := xs[n]) (x := at0 wv' xs[n] + t) (ev_rvar (i := 3) rfl) md13 (ev_op (K := K) (ev_dgetE (ev_rvar (i := 3) rfl) md13.pur (ek_str (K := K) (ev_var (i := 4) rfl rfl)) (klook_at0 (by rw [ky]; exact xin))) (ev_var (i := 9) (x := t) rfl rfl) (ro_I0 (g := fun i j => i + j))) (ek_str (K := K) (ev_var (i := 4) rfl rfl)) (by omega) fun W14 M14 o14 m14 => ?_
        have M14' : Md [p, c] W W14 := Md.fresh (Md.fresh M12 M13 fslW) (M14.mono (by simp)) fdW
        refine ⟨W14, rfl, _, _, xs.eraseIdx n, ys ++ [xs[n]], _, rfl, (o12.trans M13.on).trans o14, M14', s13.off M14 (by simp [dp.symm]) (by simp [dc.symm]), ml13.g M14 (by simp [ld]), m14, mx13.g M14 (by simp [sld]), ?_, by simp [yl], by rw [kput_keys_in (by rw [ky]; exact xin)]; exact ky, fun a ha => ?_⟩
        · rw [List.append_assoc]
          exact (List.Perm.append_left ys (erase_perm xs n hn)).trans pm
        · rw [at0_kput]
          by_cases e : a = xs[n]
          · rw [if_pos e, e, hw _ xin, if_neg xny, if_pos (List.mem_append_right _ (List.mem_singleton_self _))]
            omega
          · rw [if_neg e, hw a ha]
            have : a ∈ ys ++ [xs[n]] ↔ a ∈ ys := by simp [e]
            simp only [this]
      · rintro σ' W12 ⟨e4, e10, xs, ys, wv', rfl, o12, M12, s12, ml12, md12, mx12, pm, yl, ky, hw⟩
        rw [rng_len] at yl
        have kl : kv8.length ≤ 12 := ok8.ok.len
        show sDPut _ _ _ _ (S e4 (some (.int (i : Int))) (some (.int s)) (some (.int (j : Int))) (some (.ref sl)) (some (.int t)) e10) W12.H
        refine s_dputE (K := K) (k := (s : Int)) (x := at0 kv8 (s : Int) + t) (ev_rvar (i := 2) rfl) ml12 (ev_op (K := K) (ev_dget2E (ev_rvar (i := 2) rfl) ml12.pur (ek_int (K := K) (ev_var (i := 6) rfl rfl)) ev_int) (ev_var (i := 9) (x := t) rfl rfl) (ro_I0 (g := fun i j => i + j))) (ek_int (K := K) (ev_var (i := 6) rfl rfl)) (by omega) fun W13 M13 o13 m13 => ?_
        have ndp : (ys ++ xs).Nodup := pm.nodup_iff.mpr nA
        have ok13 := ok8.more nA (P := ys) (by omega) ht.2 (List.nodup_append.mp ndp).1 (fun a ha => pm.mem_iff.mp (List.mem_append_left _ ha)) (by omega) (by omega) ky hw
        rw [yl] at ok13
        exact ⟨W13, rfl, _, _, _, _, _, _, wv', rfl, ((o8.trans g810.on).trans (g11.on.trans o12)).trans o13, Md.fresh M12 (M13.mono (by simp)) flW, s12.off M13 (by simp [lp.symm]) (by simp [lc.symm]), m13, md12.g M13 (by simp [ld.symm]), ok13⟩
    · rintro σ' W8 ⟨b4, b7, b8, b9, b10, kv8, wv8, rfl, o8, M8, s8, ml8, md8, ok8⟩
      obtain ⟨m2, hm2, e2⟩ := hn2
      exact ⟨W8, rfl, _, _, _, _, _, _, _, kv8, wv8, rfl, ((o5.trans g6.on).trans g7.on).trans o8, M8, s8, ml8, md8, ok8.up (by omega)⟩
  · rintro σ' W5 ⟨a4, a5, a6, a7, a8, a9, a10, kv, wv, rfl, o5, M5, s5, ml5, md5, ok5⟩
    exact rest W5 kv wv _ _ _ _ _ _ _ M5 s5 ml5 md5 (ok5.up (by omega))
end
end B
/-! law_k22: moved, spread -/
namespace B
open PySem L2
open PySem.W (Tup T3 T4 Datum DatumOrd)
open Evl (Ex)
/-- a test that is drawn, of which something is known -/
def EvTP (ε : Ef) (tt : TT) (σ : SS) (W : Wd) (R : Bool → Prop) : Prop := ∀ W1, Stp ε W W1 → ∀ Q : Bool → Hp → Prop, (∀ b W2, Stp ε W1 W2 → R b → Q b W2.H) → tt σ W1.H Q
section
variable {K : Fg} {W : Wd} {σ : SS} {ε : Ef} {te tv ty : TE} {t u : TT} {R : Bool → Prop}
theorem etp_of {b : Bool} (h : EvT ε t σ W b) (r : R b) : EvTP ε t σ W R := fun W1 g1 Q k => h W1 g1 Q fun W2 g2 => k b W2 g2 r
theorem etp_x {P : Bool → Prop} (h : EvX ε K te σ W P) (i : ∀ b, P b → R b) : EvTP ε (tTest te) σ W R := fun W1 g1 Q k => h W1 g1 _ fun v W2 g2 ⟨b, pb, e⟩ => ⟨b, e, k b W2 g2 (i b pb)⟩
theorem etp_or {a : Bool} (h1 : EvT ε t σ W a) (ha : a = true → R true) (h2 : a = false → EvTP ε u σ W R) : EvTP ε (tOr t u) σ W R := fun W1 g1 Q k => h1 W1 g1 _ fun W2 g2 => by
  cases a with
  | true => rw [if_pos rfl]; exact k true W2 g2 (ha rfl)
  | false => rw [if_neg (by simp)]; exact h2 rfl W2 (g1.trans g2) Q fun b W3 g3 r => k b W3 (g2.trans g3) r
theorem q_whenP {D : L2.Ends} {tu tz : TS} (h : EvTP ε t σ W R) (s : ε.I W) (h1 : ∀ W', Stp ε W W' → R true → tu { D with nx := tz D } σ W'.H) (h2 : ∀ W', Stp ε W W' → R false → tz D σ W'.H) : tSeq (tIfS t tu tNext) tz D σ W.H := h W (.start s) _ fun b W' g r => by
  cases b with
  | true => rw [if_pos rfl]; exact h1 W' g r
  | false => rw [if_neg (by simp)]; exact h2 W' g r
theorem q_ifP {D : L2.Ends} {tu tw tz : TS} (h : EvTP ε t σ W R) (s : ε.I W) (h1 : ∀ W', Stp ε W W' → R true → tu { D with nx := tz D } σ W'.H) (h2 : ∀ W', Stp ε W W' → R false → tw { D with nx := tz D } σ W'.H) : tSeq (tIfS t tu tw) tz D σ W.H := h W (.start s) _ fun b W' g r => by
  cases b with
  | true => rw [if_pos rfl]; exact h1 W' g r
  | false => rw [if_neg (by simp)]; exact h2 W' g r
/-- d[k] = a drawn value -/
theorem s_dputX {κ α : Type} [DecidableEq κ] [PyKey κ] [Py α] {D : L2.Ends} {i : Nat} {d : Addr} {kv : List (κ × α)} {k : κ} {P : α → Prop} (h1 : σ[i]? = some (some (.ref d))) (hk : ∀ W' : Wd, EvP pur ty σ W' (fun u _ => u = kV (PyKey.key k))) (m : DMut K W d kv) (hS : d ∉ ε.S) (s : ε.I W) (hv : EvX ε K tv σ W P) (hl : kv.length < 100000)
    (q : ∀ x W1 W', P x → Stp ε W W1 → Md [d] W1 W' → DMut K W' d (kput kv k x) → D.nx σ W'.H) : sDPut (tVar i) ty tv D σ W.H := hv W (.start s) _ fun v W1 g1 ⟨x, px, rv⟩ =>
  ⟨_, h1, hk W1 W1 (.start trivial) _ fun u W2 g2 e => by
    have m1 := m.g g1.md hS
    have g := g2.pure
    obtain ⟨ks, e1, r⟩ := (m1.gr g).ex
    have b := (m1.gr g).b
    exact ⟨d, _, rfl, .inl ⟨ks, PyKey.key k, e1, e, by rw [KReps.len r]; exact Evl.sz_lt hl, rfl⟩, q x W1 (W2.put d _ b) px g1 ((Grow.s g).trans (md_put b)) ⟨b, _, upd_same, KReps.put r k (rep_g g rv)⟩⟩⟩
theorem ex_cb2 {α β γ : Type} [Py α] [Py β] [Py γ] {P : α → Prop} {R : β → Prop} {S : γ → Prop} {ta tb : TE} {r : List V → Hp → VK → Prop} (ha : EvX ε K ta σ W P) (hb : EvX ε K tb σ W R) (ho : ∀ x y, P x → R y → ∃ z, S z ∧ RC2 K r x y z) : EvX ε K (tCB r (tCons ta (tCons tb tNil))) σ W S := fun W1 g1 Q k =>
  ha W1 g1 _ fun v W2 g2 ⟨x, px, rx⟩ => hb W2 (g1.trans g2) _ fun u W3 g3 ⟨y, py, ry⟩ => by
    obtain ⟨z, sz, hz⟩ := ho x y px py
    exact hz v u W3 (rep_s g3 rx) ry _ fun w W4 g4 rz => k w W4 ((g2.trans g3).and g4) ⟨z, sz, rz⟩
theorem exp_mono {α : Type} [Py α] {P : α → Prop} : ∀ v W W', Stp ε W W' → (∃ x : α, P x ∧ rep K W.B v x) → ∃ x : α, P x ∧ rep K W'.B v x := fun v W W' g ⟨x, p, r⟩ => ⟨x, p, rep_s g r⟩
end
/-- what is wanted, changed: the same letters, nought at least -/
structure WOk (names : List Str) (wv : List (Str × Int)) : Prop where
  ky : wv.map (·.1) = names
  ge : ∀ a ∈ names, 0 ≤ at0 wv a
theorem WOk.put {names : List Str} {wv : List (Str × Int)} (h : WOk names wv) {a : Str} (ha : a ∈ names) {x : Int} (hx : 0 ≤ x) : WOk names (kput wv a x) := by
  refine ⟨by rw [kput_keys_in (by rw [h.ky]; exact ha)]; exact h.ky, fun b hb => ?_⟩
  rw [at0_kput]
  split
  · exact hx
  · exact h.ge b hb
def sp__law_moved (K : Fg) : Sp := fun vs H Q _ => ∃ (W : Wd) (p c : Addr) (v : V) (names : List Str) (wv : List (Str × Int)), W.H = H ∧ vs = [.ref p, v] ∧ St W p c ∧ DictAt K W v ⟨wv⟩ ∧ WOk names wv ∧ names.Nodup ∧ 1 ≤ names.length ∧ names.length ≤ 12 ∧
  ∀ d wv' W', Md [p, c] W W' → St W' p c → W.H d = none → DMut K W' d wv' → WOk names wv' → Q (.ref d) W'.H
theorem len__law_moved {K : Fg} {vs : List V} {H : Hp} {Q : VK} {E : XK} (h : sp__law_moved K vs H Q E) : vs.length = ["_law_state", "_law_need"].length := by
  obtain ⟨W, p, c, v, names, wv, _, rfl, _⟩ := h
  rfl
/-- _law_moved: the slots 0 _law_state, 1 _law_need, 2 _law_found, 3 _law_names_here, 4 _law_one, 5 _law_other, 6 _law_way, 7 _law_by -/
abbrev n__law_moved : List Str := ["_law_state", "_law_need", "_law_found", "_law_names_here", "_law_one", "_law_other", "_law_way", "_law_by"]
def t__law_moved (K : Fg) : TS := (tSeq (tPar 2 3 (tCons (tCB rDictC (tCons (tVar 1) tNil)) (tCons (tCB rSortedDS (tCons (tVar 1) tNil)) tNil)))
  (tSeq (tPar3 4 5 6 (tCons (tCall (sp__law_pick K) [] E0 (tCons (tVar 0) (tCons (tVar 3) tNil))) (tCons (tCall (sp__law_pick K) [] E0 (tCons (tVar 0) (tCons (tVar 3) tNil))) (tCons (tCall (sp__law_draw K) [] E0 (tCons (tVar 0) (tCons (tC (.int 4)) tNil))) tNil))))
  (tSeq (tAsg (tOp oAdd (tC (.int 1)) (tCall (sp__law_draw K) [] E0 (tCons (tVar 0) (tCons (tCall (sp__law_pick K) [] E0 (tCons (tVar 0) (tCons (tLst (tCons (tC (.int 1)) (tCons (tC (.int 3)) (tCons (tOp oPow (tC (.int 10)) (tC (.int 8))) tNil)))) tNil))) tNil)))) (gName 7))
  (tSeq (tIfS (tTest (tOp oLt (tVar 6) (tC (.int 3)))) (tSeq (tAsg (tIf (tTest (tOp rEq (tVar 6) (tC (.int 0)))) (tCB rMin2 (tCons (tVar 7) (tCons (tDGet (tVar 2) (tVar 4)) tNil))) (tOp oSub (tDGet (tVar 2) (tVar 4)) (tOp oDiv (tDGet (tVar 2) (tVar 4)) (tOp oAdd (tVar 6) (tC (.int 1)))))) (gName 7))
  (tSeq (sDPut (tVar 2) (tVar 4) (tOp oSub (tDGet (tVar 2) (tVar 4)) (tVar 7)))
  (sDPut (tVar 2) (tVar 5) (tOp oAdd (tDGet (tVar 2) (tVar 5)) (tVar 7))))) (sDPut (tVar 2) (tVar 4) (tCB rMax2 (tCons (tC (.int 0)) (tCons (tOp oAdd (tDGet (tVar 2) (tVar 4)) (tOp (rIxL K) (tLst (tCons (tVar 7) (tCons (tOp oSub (tC (.int 0)) (tVar 7)) tNil))) (tCall (sp__law_draw K) [] E0 (tCons (tVar 0) (tCons (tC (.int 2)) tNil))))) tNil)))))
  (tRet (tVar 2))))))
def sp__law_spread (K : Fg) : Sp := fun vs H Q _ => ∃ (W : Wd) (p c : Addr) (v : V) (names : List Str) (wv : List (Str × Int)), W.H = H ∧ vs = [.ref p, v] ∧ St W p c ∧ DictAt K W v ⟨wv⟩ ∧ WOk names wv ∧ (∀ a ∈ names, 1 ≤ at0 wv a) ∧ names.Nodup ∧ 1 ≤ names.length ∧ names.length ≤ 12 ∧
  ∀ d wv' W', Md [p, c] W W' → St W' p c → W.H d = none → DMut K W' d wv' → WOk names wv' → Q (.ref d) W'.H
theorem len__law_spread {K : Fg} {vs : List V} {H : Hp} {Q : VK} {E : XK} (h : sp__law_spread K vs H Q E) : vs.length = ["_law_state", "_law_need"].length := by
  obtain ⟨W, p, c, v, names, wv, _, rfl, _⟩ := h
  rfl
/-- _law_spread: the slots 0 _law_state, 1 _law_need, 2 _law_found, 3 _law_names_here, 4 _law_one, 5 _law_others, 6 _law_given, 7 _law_name, 8 _law_at -/
abbrev n__law_spread : List Str := ["_law_state", "_law_need", "_law_found", "_law_names_here", "_law_one", "_law_others", "_law_given", "_law_name", "_law_at"]
def t__law_spread (K : Fg) : TS := (tSeq (tPar 2 3 (tCons (tCB rDictC (tCons (tVar 1) tNil)) (tCons (tCB rSortedDS (tCons (tVar 1) tNil)) tNil)))
  (tSeq (tAsg (tCall (sp__law_pick K) [] E0 (tCons (tVar 0) (tCons (tVar 3) tNil))) (gName 4))
  (tSeq (tPar 5 6 (tCons (tLc (iList K (tVar 3)) (gName 7) (tTest (tOp rNe (tVar 7) (tVar 4))) (tVar 7) [7]) (tCons (tDGet (tVar 2) (tVar 4)) tNil)))
  (tSeq (tIfS (tOr (tTest (tOp (rEqT K false) (tVar 5) (tLst tNil))) (tTest (tOp rEq (tCall (sp__law_draw K) [] E0 (tCons (tVar 0) (tCons (tC (.int 3)) tNil))) (tC (.int 0))))) (tRet (tVar 2)) tNext)
  (tSeq (tAsg (tOp oSub (tVar 6) (tCall (sp__law_draw K) [] E0 (tCons (tVar 0) (tCons (tC (.int 2)) tNil)))) (gName 6))
  (tSeq (sDPut (tVar 2) (tVar 4) (tOp oSub (tDGet (tVar 2) (tVar 4)) (tVar 6)))
  (tSeq (tFor (iEnum K (tCons (tVar 5) tNil)) (gPair K 8 7)
  (sDPut (tVar 2) (tVar 7) (tOp oAdd (tDGet (tVar 2) (tVar 7)) (tOp oDiv (tOp oAdd (tVar 6) (tVar 8)) (tCB (rLen K) (tCons (tVar 5) tNil))))))
  (tRet (tVar 2)))))))))
section
variable {K : Fg} {vs : List V} {H : Hp} {Q : VK} {E : XK}
theorem sortS_mem {names : List Str} {a : Str} (h : a ∈ sortS names) : a ∈ names := (sortS_perm _).mem_iff.mp h
theorem sortS_ne {names : List Str} (h : 1 ≤ names.length) (h2 : names.length ≤ 12) : sortS names ≠ [] ∧ (sortS names).length < 100000 := by
  have := (sortS_perm names).length_eq
  exact ⟨fun z => by rw [z] at this; simp at this; omega, by omega⟩
theorem rd__law_moved (h : sp__law_moved K vs H Q E) : t__law_moved K { nx := fun _ H' => Q .non H', rt := Q } (start n__law_moved vs) H := by
  obtain ⟨W, p, c, v, names, wv, rfl, rfl, st, dv, wo, nA, n1, n12, k⟩ := h
  obtain ⟨av, _, rfl, _⟩ := id dv
  show t__law_moved K _ [some (.ref p), some (.ref av), none, none, none, none, none, none] W.H
  have wl : wv.length = names.length := by rw [← wo.ky, List.length_map]
  refine q_parW (em_copy (ε := pur) (K := K) (ev_rvar (i := 1) rfl) dv.stay W (Stp.start trivial) _ fun d W1 g1 fd md => ev_sortedDS (ε := pur) (K := K) (kv := wv) (ev_dvar (i := 1) rfl (dv.s g1)).rep (by omega) W1 (Stp.start trivial) _ fun vn W2 g2 rn => ⟨_, _, rfl, ?_⟩)
  rw [wo.ky] at rn
  have md2 : DMut K W2 d wv := md.gr g2.pure
  have G2 := g1.pure.trans g2.pure
  have st2 := st.g G2
  have dp : d ≠ p := fun z => st.dom.1 (by rw [← z]; exact fd)
  have dc : d ≠ c := fun z => st.dom.2 (by rw [← z]; exact fd)
  have dS : d ∉ (drw p c).S := by simp [drw, dp, dc]
  let S : Option V → Option V → Option V → Option V → SS := fun a4 a5 a6 a7 => [some (.ref p), some (.ref av), some (.ref d), some vn, a4, a5, a6, a7]
  show tSeq _ _ _ (S none none none none) W2.H
  obtain ⟨sne, sle⟩ := sortS_ne n1 n12
  have pk : ∀ (W0 : Wd) (σ : SS), σ[0]? = some (some (.ref p)) → σ[3]? = some (some vn) → rep K W0.B vn (sortS names) → EvX (drw p c) K (tCall (sp__law_pick K) [] E0 (tCons (tVar 0) (tCons (tVar 3) tNil))) σ W0 (fun a : Str => a ∈ names) := fun W0 σ h0 h3 r =>
    ex_pick (R := fun xs => xs = sortS names) h0 (ex_of (ev_var h3 r) rfl) fun xs e => by subst e; exact ⟨sne, sle, fun x hx => sortS_mem hx⟩
  refine q_par3 (ε := drw p c) (pk W2 (S none none none none) rfl rfl rn) (pk W2 (S none none none none) rfl rfl rn) (ex_draw (K := K) (i := 0) (n := 4) rfl ev_int (by decide) (by decide)) st2 exp_mono exp_mono fun u1 u2 u3 W3 g3 ⟨one, h1, r1⟩ ⟨oth, h2, r2⟩ ⟨way, h3, r3⟩ => ?_
  rw [show u1 = V.str one from r1, show u2 = V.str oth from r2, show u3 = V.int way from r3]
  have md3 := md2.g g3.md dS
  have M3 : Md [p, c] W W3 := (Grow.s G2).trans g3.md
  show tSeq _ _ _ (S (some (.str one)) (some (.str oth)) (some (.int way)) none) W3.H
  refine q_asgP (ε := drw p c) (W := W3) (σ := S (some (.str one)) (some (.str oth)) (some (.int way)) none) (ex_addD (m := 1) (ev_drawX (K := K) (p := p) (c := c) (i := 0) (P := fun x : Int => 1 ≤ x ∧ x ≤ 100000000) rfl (ex_pick (α := Int) (i := 0) (R := fun xs : List Int => xs = [1, 3, 100000000]) rfl (ex_of (ev_lst (ea_cons ev_int (ea_cons ev_int (ea_cons (EvR.is (ev_op (K := K) ev_int ev_int (ro_I (g := fun i j => i ^ j.toNat) ⟨by decide, by decide, by decide⟩)) (by decide)) ea_nil))) (by show 3 ≤ 100000; decide)) rfl) (fun xs e => by
    subst e
    refine ⟨by simp, by show 3 < 100000; decide, fun x hx => ?_⟩
    simp only [List.mem_cons, List.not_mem_nil, or_false] at hx
    omega)) (fun n h => by omega))) g3.i fun vb W4 g4 ⟨b, ⟨b', ⟨nb, hnb, hb'⟩, eb⟩, rb⟩ => ?_
  rw [show vb = V.int b from rb]
  have hb1 : 1 ≤ b := by omega
  have md4 := md3.g g4.md dS
  have M4 := M3.trans g4.md
  have s4 : St W4 p c := g4.i
  have ha := wo.ge one h1
  have lk1 : klook wv one = some (at0 wv one) := klook_at0 (by rw [wo.ky]; exact h1)
  have e1 : ∀ {W' : Wd} {a7 : Option V}, DMut K W' d wv → EvR pur K (tDGet (tVar 2) (tVar 4)) (S (some (.str one)) (some (.str oth)) (some (.int way)) a7) W' (at0 wv one) := fun m => ev_dgetE (ev_rvar (i := 2) rfl) m.pur (ek_str (K := K) (ev_var (i := 4) rfl rfl)) lk1
  show tSeq _ _ _ (S (some (.str one)) (some (.str oth)) (some (.int way)) (some (.int b))) W4.H
  have last : ∀ (W5 : Wd) (wv' : List (Str × Int)) (a7 : Option V), Md [p, c] W W5 → St W5 p c → DMut K W5 d wv' → WOk names wv' → tRet (tVar 2) { nx := fun _ H' => Q .non H', rt := Q } (S (some (.str one)) (some (.str oth)) (some (.int way)) a7) W5.H := fun W5 wv' a7 M5 s5 m5 w5 => ⟨_, rfl, k d wv' W5 M5 s5 fd m5 w5⟩
  refine q_if (ε := pur) (W := W4) (b := decide (way < 3)) (et_test (ev_op (K := K) (ev_var (i := 6) (x := way) rfl rfl) ev_int ro_B0)) trivial (fun hw W5 g5 => ?_) (fun hw W5 g5 => ?_)
  · have hw := of_decide_eq_true hw
    have md5 := md4.gr g5.pure
    let f := at0 wv one
    let b2 : Int := if decide (way = 0) = true then (if f < b then f else b) else f - f / (way + 1)
    have hb2 : 0 ≤ b2 ∧ b2 ≤ f := by
      show 0 ≤ (if decide (way = 0) = true then (if f < b then f else b) else f - f / (way + 1)) ∧ (if decide (way = 0) = true then (if f < b then f else b) else f - f / (way + 1)) ≤ f
      have hf : 0 ≤ f := ha
      by_cases h0 : way = 0
      · rw [if_pos (decide_eq_true h0)]
        split <;> omega
      · rw [if_neg (by simpa using h0)]
        have d1 : 0 ≤ f / (way + 1) := Int.ediv_nonneg hf (by omega)
        have d2 : f / (way + 1) ≤ f := Int.ediv_le_self _ hf
        omega
    refine q_asg (ε := pur) (K := K) (x := b2) (ev_if (et_test (ev_op (K := K) (ev_var (i := 6) (x := way) rfl rfl) ev_int ro_eqI)) (fun _ => ev_cb2 (ev_var (i := 7) (x := b) rfl rfl) (e1 md5) rc_min2) (fun hne => ev_op (K := K) (e1 md5) (ev_op (K := K) (e1 md5) (ev_op (K := K) (ev_var (i := 6) (x := way) rfl rfl) ev_int (ro_I0 (g := fun i j => i + j))) (ro_I (g := fun i j => i / j) ⟨by omega, by omega⟩)) (ro_I0 (g := fun i j => i - j)))) trivial fun vb2 W6 g6 rb2 => ?_
    rw [show vb2 = V.int b2 from rb2]
    have md6 := md5.gr g6.pure
    show tSeq _ _ _ (S (some (.str one)) (some (.str oth)) (some (.int way)) (some (.int b2))) W6.H
    refine q_dputE (K := K) (k := one) (x := f - b2) (ev_rvar (i := 2) rfl) md6 (ev_op (K := K) (e1 md6) (ev_var (i := 7) (x := b2) rfl rfl) (ro_I0 (g := fun i j => i - j))) (ek_str (K := K) (ev_var (i := 4) rfl rfl)) (by omega) fun W7 M7 o7 m7 => ?_
    have w7 := wo.put h1 (x := f - b2) (by omega)
    have l7 : (kput wv one (f - b2)).length = names.length := by rw [← w7.ky, List.length_map]
    refine s_dputE (K := K) (k := oth) (x := at0 (kput wv one (f - b2)) oth + b2) (ev_rvar (i := 2) rfl) m7 (ev_op (K := K) (ev_dgetE (ev_rvar (i := 2) rfl) m7.pur (ek_str (K := K) (ev_var (i := 5) rfl rfl)) (klook_at0 (by rw [w7.ky]; exact h2))) (ev_var (i := 7) (x := b2) rfl rfl) (ro_I0 (g := fun i j => i + j))) (ek_str (K := K) (ev_var (i := 5) rfl rfl)) (by omega) fun W8 M8 o8 m8 => ?_
    have w8 := w7.put h2 (x := at0 (kput wv one (f - b2)) oth + b2) (by have := w7.ge oth h2; omega)
    exact last W8 _ _ (Md.fresh (M4.trans (Grow.s (g5.pure.trans g6.pure))) ((M7.trans M8).mono (by simp)) fd) ((s4.g (g5.pure.trans g6.pure)).off (M7.trans M8) (by simp [dp.symm]) (by simp [dc.symm])) m8 w8
  · have md5 := md4.gr g5.pure
    have s5 := s4.g g5.pure
    refine s_dputX (ε := drw p c) (K := K) (i := 2) (d := d) (k := one) (P := fun x : Int => 0 ≤ x) rfl (fun W' => ek_str (K := K) (ev_var (i := 4) rfl rfl)) md5 dS s5 ?_ (by omega) fun x W6 W7 hx g6 M7 m7 => ?_
    · have dlk : DStay (drw p c) K W5 d wv := md5.stay dS
      have h0 : EvX (drw p c) K (tOp oAdd (tDGet (tVar 2) (tVar 4)) (tOp (rIxL K) (tLst (tCons (tVar 7) (tCons (tOp oSub (tC (.int 0)) (tVar 7)) tNil))) (tCall (sp__law_draw K) [] E0 (tCons (tVar 0) (tCons (tC (.int 2)) tNil))))) (S (some (.str one)) (some (.str oth)) (some (.int way)) (some (.int b))) W5 (fun _ : Int => True) :=
        ex_op (P := fun _ : Int => True) (R := fun _ : Int => True) (ex_of (ev_dgetE (ev_rvar (i := 2) rfl) dlk (ek_str (K := K) (ev_var (i := 4) rfl rfl)) lk1) trivial)
          ((ep_ixD (K := K) (xs := [b, 0 - b]) (ev_lst (ea_cons (ev_var (i := 7) rfl rfl) (ea_cons (ev_op (K := K) ev_int (ev_var (i := 7) (x := b) rfl rfl) (ro_I0 (g := fun i j => i - j))) ea_nil)) (by show 2 ≤ 100000; decide)) (ev_draw (K := K) (i := 0) (n := 2) rfl ev_int (by decide) (by decide))).imp fun _ _ => trivial)
          fun x y _ _ => ⟨x + y, trivial, ro_I0⟩
      exact ex_cb2 (P := fun x : Int => x = 0) (R := fun _ : Int => True) (ex_of ev_int rfl) h0 fun x y hx _ => ⟨if y > x then y else x, by subst hx; show (0 : Int) ≤ if y > 0 then y else 0; split <;> omega, rc_max2⟩
    · exact last W7 _ _ (Md.fresh ((M4.trans (Grow.s g5.pure)).trans g6.md) (M7.mono (by simp)) fd) ((show St W6 p c from g6.i).off M7 (by simp [dp.symm]) (by simp [dc.symm])) m7 (wo.put h1 hx)
theorem rd__law_spread (h : sp__law_spread K vs H Q E) : t__law_spread K { nx := fun _ H' => Q .non H', rt := Q } (start n__law_spread vs) H := by
  obtain ⟨W, p, c, v, names, wv, rfl, rfl, st, dv, wo, w1, nA, n1, n12, k⟩ := h
  obtain ⟨av, _, rfl, _⟩ := id dv
  show t__law_spread K _ [some (.ref p), some (.ref av), none, none, none, none, none, none, none] W.H
  have wl : wv.length = names.length := by rw [← wo.ky, List.length_map]
  refine q_parW (em_copy (ε := pur) (K := K) (ev_rvar (i := 1) rfl) dv.stay W (Stp.start trivial) _ fun d W1 g1 fd md => ev_sortedDS (ε := pur) (K := K) (kv := wv) (ev_dvar (i := 1) rfl (dv.s g1)).rep (by omega) W1 (Stp.start trivial) _ fun vn W2 g2 rn => ⟨_, _, rfl, ?_⟩)
  rw [wo.ky] at rn
  have md2 : DMut K W2 d wv := md.gr g2.pure
  have G2 := g1.pure.trans g2.pure
  have st2 := st.g G2
  have dp : d ≠ p := fun z => st.dom.1 (by rw [← z]; exact fd)
  have dc : d ≠ c := fun z => st.dom.2 (by rw [← z]; exact fd)
  have dS : d ∉ (drw p c).S := by simp [drw, dp, dc]
  let S : Option V → Option V → Option V → Option V → Option V → SS := fun a4 a5 a6 a7 a8 => [some (.ref p), some (.ref av), some (.ref d), some vn, a4, a5, a6, a7, a8]
  show tSeq _ _ _ (S none none none none none) W2.H
  obtain ⟨sne, sle⟩ := sortS_ne n1 n12
  refine q_asgP (ε := drw p c) (W := W2) (σ := S none none none none none) (ex_pick (K := K) (α := Str) (i := 0) (P := fun a : Str => a ∈ names) (R := fun xs => xs = sortS names) rfl (ex_of (ev_var (i := 3) rfl rn) rfl) fun xs e => by subst e; exact ⟨sne, sle, fun x hx => sortS_mem hx⟩) st2 fun u1 W3 g3 ⟨one, h1, r1⟩ => ?_
  rw [show u1 = V.str one from r1]
  have md3 := md2.g g3.md dS
  have M3 : Md [p, c] W W3 := (Grow.s G2).trans g3.md
  have rn3 := rep_s g3 rn
  have s3 : St W3 p c := g3.i
  let oth := (sortS names).filter fun a => !decide (a = one)
  have othm : ∀ a ∈ oth, a ∈ names := fun a ha => sortS_mem (List.mem_filter.mp ha).1
  have othl : oth.length ≤ 12 := by
    have h1 : oth.length ≤ (sortS names).length := List.length_filter_le _ _
    have := (sortS_perm names).length_eq
    omega
  show tSeq _ _ _ (S (some (.str one)) none none none none) W3.H
  have lk1 : klook wv one = some (at0 wv one) := klook_at0 (by rw [wo.ky]; exact h1)
  refine q_par (ε := pur) (W := W3) (σ := S (some (.str one)) none none none none) (P := fun v W' => rep K W'.B v oth) (R := fun v _ => v = V.int (at0 wv one)) (EvR.p (EvR.is (ev_lcNt (K := K) (xs := sortS names) (p := fun a => !decide (a = one)) (f := id) (ei_list (ev_var (i := 3) rfl rn3)).i (fun x v W' hx g r => et_test (ev_op (K := K) (ev_var (i := 7) (x := x) rfl r) (ev_var (i := 4) (x := one) rfl rfl) ro_neS)) (fun x v W' hx _ g r => ev_var (i := 7) rfl r) (by omega)) (by rw [List.map_id]))) (EvR.p (ev_dgetE (ev_rvar (i := 2) rfl) md3.pur (ek_str (K := K) (ev_var (i := 4) rfl rfl)) lk1)) trivial (fun v W W' g r => rep_s g r) fun vo vg W4 g4 ro rg => ?_
  rw [show vg = V.int (at0 wv one) from rg]
  have md4 := md3.gr g4.pure
  have s4 := s3.g g4.pure
  have M4 := M3.trans (Grow.s g4.pure)
  show tSeq _ _ _ (S (some (.str one)) (some vo) (some (.int (at0 wv one))) none none) W4.H
  refine q_whenP (ε := drw p c) (W := W4) (R := fun b => b = false → oth ≠ []) (etp_or (a := decide (oth = [])) (et_test (ev_op (K := K) (ev_var (i := 5) rfl ro) (ev_lst ea_nil (by decide)) (ro_eqT (by decide)))) (fun _ z => by cases z) fun hne => etp_x (P := fun _ : Bool => True) (ex_op (K := K) (P := fun _ : Int => True) (R := fun _ : Int => True) ((ex_draw (K := K) (i := 0) (n := 3) rfl ev_int (by decide) (by decide)).imp fun _ _ => trivial) (ex_of ev_int trivial) fun x y _ _ => ⟨decide (x = y), trivial, ro_eqI⟩) fun _ _ _ => of_decide_eq_false hne) s4 (fun W5 g5 _ => ?_) (fun W5 g5 hne => ?_)
  · exact ⟨_, rfl, k d wv W5 (M4.trans g5.md) g5.i fd (md4.g g5.md dS) wo⟩
  have hne := hne rfl
  have opos : 0 < oth.length := List.length_pos_iff.mpr hne
  have md5 := md4.g g5.md dS
  have ro5 := rep_s g5 ro
  refine q_asgP (ε := drw p c) (W := W5) (σ := S (some (.str one)) (some vo) (some (.int (at0 wv one))) none none) (ex_op (K := K) (P := fun x : Int => x = at0 wv one) (R := fun r : Int => 0 ≤ r ∧ r < 2) (S := fun x : Int => 0 ≤ x ∧ x ≤ at0 wv one) (ex_of (ev_var (i := 6) rfl rfl) rfl) (ex_draw (K := K) (i := 0) (n := 2) rfl ev_int (by decide) (by decide)) fun x y hx hy => ⟨x - y, by have := w1 one h1; omega, ro_I0⟩) g5.i fun vg W6 g6 ⟨gv, hg, rg6⟩ => ?_
  rw [show vg = V.int gv from rg6]
  have md6 := md5.g g6.md dS
  have ro6 := rep_s g6 ro5
  have s6 : St W6 p c := g6.i
  have M6 := (M4.trans g5.md).trans g6.md
  show tSeq _ _ _ (S (some (.str one)) (some vo) (some (.int gv)) none none) W6.H
  refine q_dputE (K := K) (k := one) (x := at0 wv one - gv) (ev_rvar (i := 2) rfl) md6 (ev_op (K := K) (ev_dgetE (ev_rvar (i := 2) rfl) md6.pur (ek_str (K := K) (ev_var (i := 4) rfl rfl)) lk1) (ev_var (i := 6) (x := gv) rfl rfl) (ro_I0 (g := fun i j => i - j))) (ek_str (K := K) (ev_var (i := 4) rfl rfl)) (by omega) fun W7 M7 o7 m7 => ?_
  have w7 := wo.put h1 (x := at0 wv one - gv) (by omega)
  have ro7 := rep_on o7 ro6
  have M7' : Md [p, c] W W7 := Md.fresh M6 (M7.mono (by simp)) fd
  have s7 := s6.off M7 (by simp [dp.symm]) (by simp [dc.symm])
  refine q_for (ε := pur) (K := K) (W := W7) (σ := S (some (.str one)) (some vo) (some (.int gv)) none none) (xs := (rng 0 oth.length).zip oth) (ei_enum (ev_var (i := 5) rfl ro7)) trivial fun W8 g8 =>
    ⟨fun i σ W' => ∃ (a7 a8 : Option V) (wv' : List (Str × Int)), σ = S (some (.str one)) (some vo) (some (.int gv)) a7 a8 ∧ On W8 W' ∧ Md [p, c] W W' ∧ St W' p c ∧ DMut K W' d wv' ∧ WOk names wv',
      ⟨none, none, _, rfl, .refl _, M7'.trans (Grow.s g8.pure), s7.g g8.pure, m7.gr g8.pure, w7⟩, fun i σ' W' ⟨_, _, _, _, o, _⟩ => o, ?_, ?_⟩
  · rintro i x vx σ' W9' W9 hi hx ⟨a7, a8, wv', rfl, o9', M9', s9', m9', w9⟩ g9 rx
    have m9 := m9'.gr g9
    have o9 := o9'.trans g9.on
    have ro9 : rep K W9.B vo oth := rep_on o9 (rep_s g8 ro7)
    rw [List.length_zip, rng_len] at hi
    rw [List.getElem?_zip_eq_some, rng_get (by omega)] at hx
    obtain ⟨hx1, hx2⟩ := hx
    have ex1 : x.1 = (i : Int) := by have := Option.some.inj hx1; omega
    have xm : x.2 ∈ names := othm _ (List.mem_of_getElem? hx2)
    refine gt_pair (i := 8) (j := 7) x vx W9 _ _ rx fun σ2 ⟨u1, u2, ru1, ru2, e⟩ => ?_
    subst e
    rw [show u1 = V.int x.1 from ru1, show u2 = V.str x.2 from ru2, ex1]
    show sDPut _ _ _ _ (S (some (.str one)) (some vo) (some (.int gv)) (some (.str x.2)) (some (.int (i : Int)))) W9.H
    have l9 : wv'.length = names.length := by rw [← w9.ky, List.length_map]
    refine s_dputE (K := K) (k := x.2) (x := at0 wv' x.2 + (gv + (i : Int)) / (oth.length : Int)) (ev_rvar (i := 2) rfl) m9 (ev_op (K := K) (ev_dgetE (ev_rvar (i := 2) rfl) m9.pur (ek_str (K := K) (ev_var (i := 7) rfl rfl)) (klook_at0 (by rw [w9.ky]; exact xm))) (ev_op (K := K) (ev_op (K := K) (ev_var (i := 6) (x := gv) rfl rfl) (ev_var (i := 8) (x := (i : Int)) rfl rfl) (ro_I0 (g := fun i j => i + j))) (ev_cb1 (ev_var (i := 5) rfl ro9) rc_len) (ro_I (g := fun i j => i / j) ⟨by omega, by omega⟩)) (ro_I0 (g := fun i j => i + j))) (ek_str (K := K) (ev_var (i := 7) rfl rfl)) (by omega) fun W10 M10 o10 m10 => ?_
    have q0 : 0 ≤ (gv + (i : Int)) / (oth.length : Int) := Int.ediv_nonneg (by omega) (by omega)
    exact ⟨W10, rfl, _, _, _, rfl, o9.trans o10, Md.fresh (M9'.trans (Grow.s g9)) (M10.mono (by simp)) fd, (s9'.g g9).off M10 (by simp [dp.symm]) (by simp [dc.symm]), m10, w9.put xm (by have := w9.ge _ xm; omega)⟩
  · rintro σ' W9 ⟨a7, a8, wv', rfl, o9, M9, s9, m9, w9⟩
    exact ⟨_, rfl, k d wv' W9 M9 s9 fd m9 w9⟩
end
end B
/-! law_k22: the law's own look -/
namespace B
open PySem L2
open PySem.W (Tup T3 T4 Datum DatumOrd)
open Evl (Ex)
/-! ### plainly -/
def subsF (l : List Str) : List (List Str) := l.foldl (fun f n => f ++ f.map fun s => s ++ [n]) [[]]
theorem subsF_snoc (l : List Str) (n : Str) : subsF (l ++ [n]) = subsF l ++ (subsF l).map fun s => s ++ [n] := by
  unfold subsF
  rw [List.foldl_append]
  rfl
theorem rev_ind {α : Type} {P : List α → Prop} (h0 : P []) (hs : ∀ l a, P l → P (l ++ [a])) (l : List α) : P l := by
  have : ∀ r : List α, P r.reverse := by
    intro r
    induction r with
    | nil => exact h0
    | cons a r ih => rw [List.reverse_cons]; exact hs _ _ ih
  have h := this l.reverse
  rwa [List.reverse_reverse] at h
theorem subsF_len (l : List Str) : (subsF l).length = 2 ^ l.length := by
  induction l using rev_ind with
  | h0 => rfl
  | hs l n ih =>
    rw [subsF_snoc, List.length_append, List.length_map, ih, List.length_append, List.length_singleton, Nat.pow_succ]
    omega
theorem subsF_mem (l : List Str) : ∀ s, s ∈ subsF l ↔ s.Sublist l := by
  induction l using rev_ind with
  | h0 =>
    intro s
    show s ∈ [[]] ↔ _
    rw [List.mem_singleton, List.sublist_nil]
  | hs l n ih =>
    intro s
    rw [subsF_snoc, List.mem_append, ih, List.sublist_append_iff]
    constructor
    · rintro (h | h)
      · exact ⟨s, [], (List.append_nil s).symm, h, List.nil_sublist _⟩
      · obtain ⟨t, ht, rfl⟩ := List.mem_map.mp h
        exact ⟨t, [n], rfl, (ih t).mp ht, List.Sublist.refl _⟩
    · rintro ⟨a, b, rfl, ha, hb⟩
      have hb2 : b = [] ∨ b = [n] := by
        cases hb with
        | cons _ h => left; exact List.sublist_nil.mp h
        | cons_cons _ h => right; rw [List.sublist_nil.mp h]
      rcases hb2 with rfl | rfl
      · left; rw [List.append_nil]; exact ha
      · right; exact List.mem_map.mpr ⟨a, (ih a).mpr ha, rfl⟩
theorem fall_uniq {a b : List Int} (ha : Fall a) (hb : Fall b) (h : a.Perm b) : a = b := h.eq_of_pairwise (fun x y _ _ h1 h2 => Int.le_antisymm h2 h1) ha hb
def posF (wv : List (Str × Int)) : List Str := (wv.map (·.1)).filter fun a => decide (0 < at0 wv a)
def nsF (wv : List (Str × Int)) : List Str := (posF wv).mergeSort fun a b => decide (0 - at0 wv a ≤ 0 - at0 wv b)
theorem nsF_perm (wv : List (Str × Int)) : (nsF wv).Perm (posF wv) := List.mergeSort_perm _ _
theorem nsF_fall (wv : List (Str × Int)) : Fall ((nsF wv).map (at0 wv)) := by
  have := List.pairwise_mergeSort (le := fun a b : Str => decide (0 - at0 wv a ≤ 0 - at0 wv b)) (fun a b c h1 h2 => by simp only [decide_eq_true_eq] at *; omega) (fun a b => by simp only [Bool.or_eq_true, decide_eq_true_eq]; omega) (posF wv)
  show List.Pairwise _ _
  rw [List.pairwise_map]
  exact this.imp fun h => by have := of_decide_eq_true h; omega
theorem keys_at0 {wv : List (Str × Int)} (n : (wv.map (·.1)).Nodup) : (wv.map (·.1)).map (at0 wv) = wv.map (·.2) := by
  rw [List.map_map]
  refine List.map_congr_left fun q hq => ?_
  exact at0_of_mem n hq
theorem nsF_fallF {wv : List (Str × Int)} (n : (wv.map (·.1)).Nodup) (h0 : ∀ a ∈ wv.map (·.1), 0 ≤ at0 wv a) : ∃ k, fallF wv = (nsF wv).map (at0 wv) ++ List.replicate k 0 := by
  have hx : ∀ x ∈ fallF wv, 0 ≤ x := fun x hx => by
    have := (fallF_perm wv).mem_iff.mp hx
    rw [← keys_at0 n] at this
    obtain ⟨a, ha, rfl⟩ := List.mem_map.mp this
    exact h0 a ha
  obtain ⟨k, hk⟩ := fall_zeros (fallF_fall wv) hx
  refine ⟨k, ?_⟩
  have e : (fallF wv).filter (fun x => decide (0 < x)) = (nsF wv).map (at0 wv) := by
    refine fall_uniq ((fallF_fall wv).filter _) (nsF_fall wv) ?_
    have h1 : ((fallF wv).filter fun x => decide (0 < x)).Perm ((wv.map (·.2)).filter fun x => decide (0 < x)) := (fallF_perm wv).filter _
    have h2 : ((nsF wv).map (at0 wv)).Perm ((posF wv).map (at0 wv)) := (nsF_perm wv).map _
    have h3 : (posF wv).map (at0 wv) = (wv.map (·.2)).filter fun x => decide (0 < x) := by
      rw [← keys_at0 n, List.filter_map]
      rfl
    rw [← h3] at h1
    exact h1.trans h2.symm
  rw [← e]
  exact hk
theorem sum_reach {kv : List (Int × Int)} (h : SzOk kv) : (kv.map fun q => q.1 * q.2).sum = reachF kv 12 := by
  unfold reachF
  congr 1
  refine List.map_congr_left fun q hq => ?_
  have := (h.bd q hq).2.1
  rw [if_neg (by omega), Int.mul_comm]
theorem sum_permZ {a b : List Int} (h : a.Perm b) : a.sum = b.sum := sum_permI h
/-- the law's look is the program's -/
theorem look_iff {kv : List (Int × Int)} {wv : List (Str × Int)} (ok : SzOk kv) (n : (wv.map (·.1)).Nodup) (h0 : ∀ a ∈ wv.map (·.1), 0 ≤ at0 wv a) : holdsF kv wv = true ↔ (wv.map (·.2)).sum = (kv.map fun q => q.1 * q.2).sum ∧ PreC (reachF kv) ((nsF wv).map (at0 wv)) := by
  obtain ⟨k, hk⟩ := nsF_fallF n h0
  rw [holds_iff ok, sum_permZ (fallF_perm wv), sum_reach ok, hk, pre_zeros (reach_mono fun q hq => (ok.bd q hq).2.2)]
/-- a row that is a list or a tuple -/
structure SeqS where
  items : List Str
instance : Py SeqS := ⟨fun K H v x => rep K H v (Tup.mk x.items) ∨ rep K H v x.items, fun e h => h.imp (Py.mono e) (Py.mono e)⟩
def sp__law_sets (K : Fg) : Sp := fun vs H Q _ => ∃ (W : Wd) (v : V) (names : List Str), W.H = H ∧ vs = [v] ∧ rep K W.B v names ∧ names.length ≤ 8 ∧
  ∀ u W', Grow W W' → rep K W'.B u ((subsF names).map Tup.mk) → Q u W'.H
theorem len__law_sets {K : Fg} {vs : List V} {H : Hp} {Q : VK} {E : XK} (h : sp__law_sets K vs H Q E) : vs.length = ["_law_names_here"].length := by
  obtain ⟨W, v, names, _, rfl, _⟩ := h
  rfl
/-- _law_sets: the slots 0 _law_names_here, 1 _law_found, 2 _law_name, 3 _law_some -/
abbrev n__law_sets : List Str := ["_law_names_here", "_law_found", "_law_name", "_law_some"]
def t__law_sets (K : Fg) : TS := (tSeq (tAsg (tLst (tCons (tTup tNil) tNil)) (gName 1))
  (tSeq (tFor (iList K (tVar 0)) (gName 2)
  (tAsg (tOp rCat (tVar 1) (tLc (iList K (tVar 1)) (gName 3) tYes (tOp (rCatA K) (tVar 3) (tTup (tCons (tVar 2) tNil))) [3])) (gName 1)))
  (tRet (tVar 1))))
def sp__law_is_sum (K : Fg) : Sp := fun vs H Q _ => ∃ (W : Wd) (v w : V) (kv : List (Int × Int)) (names : List Str) (wv : List (Str × Int)), W.H = H ∧ vs = [v, w] ∧ TabAt W (tabP K "_law_is_sum") (qLam "_law_is_sum") ∧ DictAt K W v ⟨kv⟩ ∧ DictAt K W w ⟨wv⟩ ∧ SzOk kv ∧ WOk names wv ∧ names.Nodup ∧ names.length ≤ 12 ∧
  ∀ W', Md [tabP K "_law_is_sum"] W W' → TabAt W' (tabP K "_law_is_sum") (qLam "_law_is_sum") → Q (.bl (holdsF kv wv)) W'.H
theorem len__law_is_sum {K : Fg} {vs : List V} {H : Hp} {Q : VK} {E : XK} (h : sp__law_is_sum K vs H Q E) : vs.length = ["_law_lots", "_law_need"].length := by
  obtain ⟨W, v, w, kv, names, wv, _, rfl, _⟩ := h
  rfl
/-- _law_is_sum: the slots 0 _law_lots, 1 _law_need, 2 _law_size, 3 _law_times, 4 _law_names_here, 5 _law_name, 6 _law_sets_here, 7 _law_j, 8 _law_some, 9 _law_n -/
abbrev n__law_is_sum : List Str := ["_law_lots", "_law_need", "_law_size", "_law_times", "_law_names_here", "_law_name", "_law_sets_here", "_law_j", "_law_some", "_law_n"]
def t__law_is_sum (K : Fg) : TS := (tSeq (tIfS (tTest (tOp rNe (tCB rSumV (tCons (tVals (tVar 1)) tNil)) (tCB (rSum K) (tCons (tLockE (tLc (iItems (tVar 0)) (gPair K 2 3) tYes (tOp oMul (tVar 2) (tVar 3)) [2, 3])) tNil)))) (tRet (tC (.bl false))) tNext)
  (tSeq (tAsg (SK.tSortK K (tabP K "_law_is_sum") (qLam "_law_is_sum") 5 (tCons (tLockE (tLc (iKeys (tVar 1)) (gName 5) (tTest (tOp oGt (tDGet (tVar 1) (tVar 5)) (tC (.int 0)))) (tVar 5) [5])) tNil) (tOp oSub (tC (.int 0)) (tDGet (tVar 1) (tVar 5)))) (gName 4))
  (tSeq (tAsg (tIf (tTest (tOp oLt (tCB (rLen K) (tCons (tVar 4) tNil)) (tC (.int 9)))) (tCall (sp__law_sets K) [] E0 (tCons (tVar 4) tNil)) (tLc (iRng1 (tCons (tOp oAdd (tCB (rLen K) (tCons (tVar 4) tNil)) (tC (.int 1))) tNil)) (gName 7) tYes (tSl (rSlL K) (tVar 4) tNoPart (tPart (tVar 7))) [7])) (gName 6))
  (tSeq (tFor (iList K (tVar 6)) (gName 8)
  (tIfS (tTest (tOp oGt (tCB (rSum K) (tCons (tLc (BY.iSeq K (tVar 8)) (gName 5) tYes (tDGet (tVar 1) (tVar 5)) [5]) tNil)) (tCB (rSum K) (tCons (tLockE (tLc (iItems (tVar 0)) (gPair K 2 9) tYes (tOp oMul (tVar 9) (tCB rMin2 (tCons (tVar 2) (tCons (tCB (rLen K) (tCons (tVar 8) tNil)) tNil)))) [2, 9])) tNil)))) (tRet (tC (.bl false))) tNext))
  (tRet (tC (.bl true)))))))
section
variable {K : Fg} {W : Wd} {σ : SS} {ε : Ef} {te ty : TE}
/-- d[k], d stays, locked or not -/
theorem ev_dgetL {κ α : Type} [DecidableEq κ] [PyKey κ] [Py α] {d : Addr} {kv : List (κ × α)} {k : κ} {x : α} (hd : EvR ε K te σ W (Raw.mk (.ref d))) (m : rep K W.B (.ref d) (⟨kv⟩ : Dict κ α)) (hk : EvP ε ty σ W (fun u _ => u = kV (PyKey.key k))) (hx : klook kv k = some x) : EvR ε K (tDGet te ty) σ W x := fun W1 g1 Q q => hd W1 g1 _ fun v W1' g1' e => hk W1' (g1.trans g1') _ fun u W2 g2 eu => by
  obtain ⟨a, ks, e0, hB, r⟩ := rep_s ((g1.trans g1').trans g2) m
  cases e0
  obtain ⟨v, h1, h2⟩ := KReps.some r hx
  exact ⟨d, v, e, .inl ⟨ks, _, W2.sub.rd hB, eu, h1.symm⟩, q _ W2 (g1'.trans g2) h2⟩
theorem seq_repsT {H : Hp} : ∀ {vs : List V} {xs : List (List Str)}, Reps K H vs (xs.map Tup.mk) → Reps K H vs (xs.map SeqS.mk)
  | [], [], .nil => .nil
  | _ :: _, _ :: _, .cons a b => .cons (.inl a) (seq_repsT b)
theorem seq_repsL {H : Hp} : ∀ {vs : List V} {xs : List (List Str)}, Reps K H vs xs → Reps K H vs (xs.map SeqS.mk)
  | [], [], .nil => .nil
  | _ :: _, _ :: _, .cons a b => .cons (.inr a) (seq_repsL b)
theorem ev_seqsT {xs : List (List Str)} (h : EvR ε K te σ W (xs.map Tup.mk)) : EvR ε K te σ W (xs.map SeqS.mk) := fun W1 g1 Q k => h W1 g1 Q fun v W2 g2 ⟨a, vs, e, hb, r⟩ => k v W2 g2 ⟨a, vs, e, hb, seq_repsT r⟩
theorem ev_seqsL {xs : List (List Str)} (h : EvR ε K te σ W xs) : EvR ε K te σ W (xs.map SeqS.mk) := fun W1 g1 Q k => h W1 g1 Q fun v W2 g2 ⟨a, vs, e, hb, r⟩ => k v W2 g2 ⟨a, vs, e, hb, seq_repsL r⟩
end
section
variable {K : Fg} {vs : List V} {H : Hp} {Q : VK} {E : XK}
theorem rd__law_sets (h : sp__law_sets K vs H Q E) : t__law_sets K { nx := fun _ H' => Q .non H', rt := Q } (start n__law_sets vs) H := by
  obtain ⟨W, v, names, rfl, rfl, rv, hl, k⟩ := h
  show t__law_sets K _ [some v, none, none, none] W.H
  have pow : ∀ i, i ≤ 8 → 2 ^ i ≤ 256 := fun i hi => Nat.le_trans (Nat.pow_le_pow_right (by decide) hi) (by decide)
  refine q_asg (ε := pur) (K := K) (x := (subsF []).map Tup.mk) (ev_lst (ea_cons (ev_tupN ea_nil (by decide)) ea_nil) (by decide)) trivial fun v1 W1 g1 r1 => ?_
  refine q_for (ε := pur) (K := K) (xs := names) (ei_list (ev_var (i := 0) rfl (rep_s g1 rv))) trivial fun W2 g2 =>
    ⟨fun i σ W' => ∃ (u : V) (a : Option V), σ = [some v, some u, a, none] ∧ Grow W2 W' ∧ rep K W'.B u ((subsF (names.take i)).map Tup.mk), ⟨v1, none, rfl, .refl _ _, rep_s g2 r1⟩, fun i σ' W' ⟨_, _, _, g, _⟩ => g.on, ?_, ?_⟩
  · rintro i x vx σ' W3' W3 hi hx ⟨u, a, rfl, g3', r3⟩ g3 rx
    have r3' := rep_g g3 r3
    have sl : (subsF (names.take i)).length ≤ 256 := by
      rw [subsF_len]
      exact pow _ (by rw [List.length_take]; omega)
    show tAsg _ _ _ [some v, some u, some vx, none] W3.H
    refine s_asg (ε := pur) (K := K) (x := (subsF (names.take (i + 1))).map Tup.mk) (EvR.is (ev_op (K := K) (ev_var (i := 1) rfl r3') (ev_lcN (K := K) (xs := (subsF (names.take i)).map Tup.mk) (f := fun t => Tup.mk (t.items ++ [x])) (ei_list (ev_var (i := 1) rfl r3')).i (fun t vt W' ht g rt => ev_op (K := K) (ev_var (i := 3) rfl rt) (ev_tupN (ea_cons (ev_var (i := 2) (x := x) rfl (rep_s g rx)) ea_nil) (by show 1 ≤ 100000; decide)) (ro_catT ?_)) (by rw [List.length_map]; omega)) (ro_cat (by rw [List.length_map, List.length_map, List.length_map]; omega))) ?_) trivial fun w W5 g5 r5 => ⟨W5, rfl, w, _, rfl, (g3'.trans g3).trans g5.pure, r5⟩
    · obtain ⟨s, hs, rfl⟩ := List.mem_map.mp ht
      have := ((subsF_mem _ _).mp hs).length_le
      rw [List.length_take] at this
      show s.length + 1 ≤ _
      omega
    · rw [List.take_add_one, hx, show (some x).toList = [x] from rfl, subsF_snoc, List.map_append, List.map_map, List.map_map]
      rfl
  · rintro σ' W3 ⟨u, a, rfl, g3, r3⟩
    rw [List.take_length] at r3
    exact ⟨_, rfl, k u W3 ((g1.pure.trans g2.pure).trans g3) r3⟩
theorem rd__law_is_sum (h : sp__law_is_sum K vs H Q E) : t__law_is_sum K { nx := fun _ H' => Q .non H', rt := Q } (start n__law_is_sum vs) H := by
  obtain ⟨W, v, w, kv, names, wv, rfl, rfl, tb, dv, dw, ok, wo, nA, n12, k⟩ := h
  obtain ⟨av, _, rfl, _⟩ := id dv
  obtain ⟨aw, _, rfl, _⟩ := id dw
  show t__law_is_sum K _ [some (.ref av), some (.ref aw), none, none, none, none, none, none, none, none] W.H
  have nd : (wv.map (·.1)).Nodup := by rw [wo.ky]; exact nA
  have h0 : ∀ a ∈ wv.map (·.1), 0 ≤ at0 wv a := fun a ha => wo.ge a (by rw [← wo.ky]; exact ha)
  have wl : wv.length ≤ 12 := by have := congrArg List.length wo.ky; rw [List.length_map] at this; omega
  have kl := ok.len
  have look := look_iff ok nd h0
  have eW : EvR pur K (tCB (rSum K) (tCons (tLockE (tLc (iItems (tVar 0)) (gPair K 2 3) tYes (tOp oMul (tVar 2) (tVar 3)) [2, 3])) tNil)) [some (.ref av), some (.ref aw), none, none, none, none, none, none, none, none] W (kv.map fun q => q.1 * q.2).sum := by
    obtain ⟨a, ks, e, hB, hH, hr⟩ := id dv
    cases e
    exact ev_cb1 (ev_lock hH fun WL lk => ev_lcP (K := K) (f := fun q : Int × Int => q.1 * q.2) (ei_items (ev_rvar (i := 0) rfl) lk.lk (KReps.mono (exExt lk.b) hr)) (fun x v u W' hx g r1 r2 => by
      have := ok.bd x hx
      exact ev_op (K := K) (ev_var (i := 2) (x := x.1) rfl r1) (ev_var (i := 3) (x := x.2) rfl r2) (ro_I (g := fun i j => i * j) (.inl ⟨by omega, by omega⟩))) (by show kv.length ≤ 100000; omega)) rc_sum
  refine q_when (ε := pur) (b := !decide ((wv.map (·.2)).sum = (kv.map fun q => q.1 * q.2).sum)) (et_test (ev_op (K := K) (ev_sumV (ev_dvar (i := 1) rfl dw)) eW ro_neI)) trivial (fun hb W1 g1 => ?_) (fun hb W1 g1 => ?_)
  · refine s_ret (ε := pur) (K := K) (x := false) ev_bl trivial fun u W2 g2 ru => ?_
    rw [show u = V.bl false from ru]
    have hf : holdsF kv wv = false := by
      cases e : holdsF kv wv with
      | false => rfl
      | true => exact absurd (look.mp e).1 (of_decide_eq_false (nb_t hb))
    have g := g1.pure.trans g2.pure
    have := k W2 (Grow.s g) (tb.gr g)
    rwa [hf] at this
  have hsum : (wv.map (·.2)).sum = (kv.map fun q => q.1 * q.2).sum := of_decide_eq_true (nb_f hb)
  have tb1 := tb.gr g1.pure
  have dv1 := dv.s g1
  have dw1 := dw.s g1
  have nl : (nsF wv).length ≤ 12 := by
    have h1 := (nsF_perm wv).length_eq
    have h2 : (posF wv).length ≤ (wv.map (·.1)).length := List.length_filter_le _ _
    rw [List.length_map] at h2
    omega
  have nmem : ∀ a ∈ nsF wv, a ∈ wv.map (·.1) := fun a ha => (List.mem_filter.mp ((nsF_perm wv).mem_iff.mp ha)).1
  have eL : EvR (lamE (tabP K "_law_is_sum") (qLam "_law_is_sum")) K (tLockE (tLc (iKeys (tVar 1)) (gName 5) (tTest (tOp oGt (tDGet (tVar 1) (tVar 5)) (tC (.int 0)))) (tVar 5) [5])) [some (.ref av), some (.ref aw), none, none, none, none, none, none, none, none] W1 (posF wv) := ev_pure fun W2 o2 => by
    have dw2 := dw1.on o2
    obtain ⟨a, ks, e, hB, hH, hr⟩ := id dw2
    cases e
    exact ev_lock hH fun WL lk => EvR.is (ev_lcNt (K := K) (xs := wv.map (·.1)) (p := fun a => decide (0 < at0 wv a)) (f := id) (ei_keys (ev_rvar (i := 1) rfl) lk.lk (KReps.mono (exExt lk.b) hr)) (fun x v W' hx g r => et_test (ev_op (K := K) (ev_dgetL (ev_rvar (i := 1) rfl) (rep_s g (rep_lk lk dw2.rep)) (ek_str (K := K) (ev_var (i := 5) rfl r)) (klook_at0 hx)) ev_int ro_B0)) (fun x v W' hx _ g r => ev_var (i := 5) rfl r) (by rw [List.length_map]; omega)) (by rw [List.map_id]; rfl)
  refine q_asg (ε := lamE (tabP K "_law_is_sum") (qLam "_law_is_sum")) (K := K) (x := nsF wv) (ev_sortKI (f := fun a => 0 - at0 wv a) eL (fun x v W' hx g r => ev_op (K := K) ev_int (ev_dgetE (ev_rvar (i := 1) rfl) (dw1.s g).stay (ek_str (K := K) (ev_var (i := 5) rfl r)) (klook_at0 (List.mem_filter.mp hx).1)) (ro_I0 (g := fun i j => i - j)))) tb1 fun vn W2 g2 rn => ?_
  have tb2 : TabAt W2 (tabP K "_law_is_sum") (qLam "_law_is_sum") := g2.i
  have M2 : Md [tabP K "_law_is_sum"] W W2 := (Grow.s g1.pure).trans g2.md
  have dv2 := dv1.s g2
  have dw2 := dw1.s g2
  let S : Option V → Option V → Option V → Option V → SS := fun a5 a6 a7 a8 => [some (.ref av), some (.ref aw), none, none, some vn, a5, a6, a7, a8, none]
  show tSeq _ _ _ (S none none none none) W2.H
  -- the sets looked at
  let sets : List (List Str) := if decide (((nsF wv).length : Int) < 9) = true then subsF (nsF wv) else (List.range ((nsF wv).length + 1)).map fun j => (nsF wv).take j
  have sub : ∀ s ∈ sets, s.Sublist (nsF wv) := fun s hs => by
    show s.Sublist (nsF wv)
    by_cases hd : decide (((nsF wv).length : Int) < 9) = true
    · have : s ∈ subsF (nsF wv) := by
        have h := hs
        show s ∈ subsF (nsF wv)
        rw [show sets = subsF (nsF wv) from if_pos hd] at h
        exact h
      exact (subsF_mem _ _).mp this
    · have h := hs
      rw [show sets = (List.range ((nsF wv).length + 1)).map fun j => (nsF wv).take j from if_neg hd] at h
      obtain ⟨j, _, rfl⟩ := List.mem_map.mp h
      exact List.take_sublist _ _
  have all : (∀ s ∈ sets, (s.map (at0 wv)).sum ≤ reachF kv (s.length : Int)) ↔ PreC (reachF kv) ((nsF wv).map (at0 wv)) := by
    by_cases hd : decide (((nsF wv).length : Int) < 9) = true
    · rw [show sets = subsF (nsF wv) from if_pos hd, pre_sub (nsF_fall wv)]
      constructor
      · intro h s hs
        obtain ⟨t, ht, rfl⟩ := List.sublist_map_iff.mp hs
        rw [List.length_map]
        exact h t ((subsF_mem _ _).mpr ht)
      · intro h s hs
        have := h (s.map (at0 wv)) (((subsF_mem _ _).mp hs).map _)
        rwa [List.length_map] at this
    · rw [show sets = (List.range ((nsF wv).length + 1)).map fun j => (nsF wv).take j from if_neg hd]
      constructor
      · intro h j hj
        rw [List.length_map] at hj
        have := h _ (List.mem_map.mpr ⟨j, List.mem_range.mpr (by omega), rfl⟩)
        rw [List.map_take, List.length_take, Nat.min_eq_left hj] at this
        exact this
      · intro h s hs
        obtain ⟨j, hj, rfl⟩ := List.mem_map.mp hs
        have hj := List.mem_range.mp hj
        have := h j (by rw [List.length_map]; omega)
        rw [List.map_take, List.length_take, Nat.min_eq_left (by omega)]
        exact this
  have slen : sets.length ≤ 256 := by
    by_cases hd : decide (((nsF wv).length : Int) < 9) = true
    · rw [show sets = subsF (nsF wv) from if_pos hd, subsF_len]
      exact Nat.le_trans (Nat.pow_le_pow_right (by decide) (show (nsF wv).length ≤ 8 by have := of_decide_eq_true hd; omega)) (by decide)
    · rw [show sets = (List.range ((nsF wv).length + 1)).map fun j => (nsF wv).take j from if_neg hd, List.length_map, List.length_range]
      omega
  have eS : EvR pur K (tIf (tTest (tOp oLt (tCB (rLen K) (tCons (tVar 4) tNil)) (tC (.int 9)))) (tCall (sp__law_sets K) [] E0 (tCons (tVar 4) tNil)) (tLc (iRng1 (tCons (tOp oAdd (tCB (rLen K) (tCons (tVar 4) tNil)) (tC (.int 1))) tNil)) (gName 7) tYes (tSl (rSlL K) (tVar 4) tNoPart (tPart (tVar 7))) [7])) (S none none none none) W2 (sets.map SeqS.mk) := by
    refine EvR.is (ev_if (x := (subsF (nsF wv)).map SeqS.mk) (x' := ((List.range ((nsF wv).length + 1)).map fun j => (nsF wv).take j).map SeqS.mk) (et_test (ev_op (K := K) (ev_cb1 (ev_var (i := 4) rfl rn) rc_len) ev_int ro_B0)) (fun hd => ev_seqsT ?_) (fun hd => ev_seqsL ?_)) ?_
    · have : (nsF wv).length ≤ 8 := by have := of_decide_eq_true hd; omega
      exact fun W3 g3 Q k => ⟨_, rfl, W3, vn, nsF wv, rfl, rfl, rep_s g3 rn, this, fun u W4 g4 r4 => k u W4 (Stp.of g4) r4⟩
    · refine EvR.is (ev_lcN (K := K) (xs := rng 0 ((nsF wv).length + 1)) (f := fun j => cutL (nsF wv) none (some j)) (EvJ.i (ei_rng1 (n := ((nsF wv).length + 1 : Nat)) (EvR.is (ev_op (K := K) (ev_cb1 (ev_var (i := 4) rfl rn) rc_len) ev_int (ro_I0 (g := fun i j => i + j))) (by omega)) (by omega) (by omega))) (fun x v W' hx g r => ev_slL (ev_var (i := 4) rfl (rep_s g rn)) eo_none (eo_some (K := K) (ev_var (i := 7) (x := x) rfl r))) (by rw [rng_len]; omega)) ?_
      unfold rng
      rw [List.map_map]
      refine List.map_congr_left fun j _ => ?_
      show cutL (nsF wv) none (some (0 + (j : Int))) = (nsF wv).take j
      rw [Int.zero_add, cut_toN]
    · show (if _ then _ else _) = List.map SeqS.mk (if _ then _ else _)
      split <;> rfl
  refine q_asg (ε := pur) (K := K) (x := sets.map SeqS.mk) eS trivial fun vs6 W3 g3 r3 => ?_
  have tb3 := tb2.gr g3.pure
  have M3 := M2.trans (Grow.s g3.pure)
  have dv3 := dv2.s g3
  have dw3 := dw2.s g3
  show tSeq _ _ _ (S none (some vs6) none none) W3.H
  refine q_for (ε := pur) (K := K) (W := W3) (σ := S none (some vs6) none none) (xs := sets.map SeqS.mk) (ei_list (ev_var (i := 6) rfl r3)) trivial fun W4 g4 =>
    ⟨fun i σ W' => ∃ (a8 : Option V), σ = S none (some vs6) none a8 ∧ Grow W4 W' ∧ ∀ j, j < i → ∀ s, sets[j]? = some s → (s.map (at0 wv)).sum ≤ reachF kv (s.length : Int),
      ⟨none, rfl, .refl _ _, fun j hj => absurd hj (Nat.not_lt_zero _)⟩, fun i σ' W' ⟨_, _, g, _⟩ => g.on, ?_, ?_⟩
  · rintro i x vx σ' W5' W5 hi hx ⟨a8, rfl, g5', hall⟩ g5 rx
    rw [List.getElem?_map] at hx
    obtain ⟨s, hs, rfl⟩ := Option.map_eq_some_iff.mp hx
    have ssub := sub s (List.mem_of_getElem? hs)
    have slen2 : s.length ≤ 12 := Nat.le_trans ssub.length_le nl
    have G5 := g4.pure.trans (g5'.trans g5)
    have dv5 := dv3.g G5
    have dw5 := dw3.g G5
    show tIfS _ _ _ _ (S none (some vs6) none (some vx)) W5.H
    have ej : EvJ pur K (BY.iSeq K (tVar 8)) (S none (some vs6) none (some vx)) W5 s := by
      rcases rx with r | r
      · exact ei_seqT (xs := Tup.mk s) (ev_var (i := 8) rfl r)
      · exact ei_seqL (ev_var (i := 8) rfl r)
    have eN : EvR pur K (tCB (rSum K) (tCons (tLc (BY.iSeq K (tVar 8)) (gName 5) tYes (tDGet (tVar 1) (tVar 5)) [5]) tNil)) (S none (some vs6) none (some vx)) W5 (s.map (at0 wv)).sum :=
      ev_cb1 (ev_lcN (K := K) (xs := s) (f := at0 wv) ej.i (fun x v W' hx g r => ev_dgetE (ev_rvar (i := 1) rfl) (dw5.s g).stay (ek_str (K := K) (ev_var (i := 5) rfl r)) (klook_at0 (nmem x (ssub.subset hx)))) (by omega)) rc_sum
    have eK : EvR pur K (tCB (rSum K) (tCons (tLockE (tLc (iItems (tVar 0)) (gPair K 2 9) tYes (tOp oMul (tVar 9) (tCB rMin2 (tCons (tVar 2) (tCons (tCB (rLen K) (tCons (tVar 8) tNil)) tNil)))) [2, 9])) tNil)) (S none (some vs6) none (some vx)) W5 (reachF kv (s.length : Int)) := by
      obtain ⟨a, ks, e, hB, hH, hr⟩ := id dv5
      cases e
      refine ev_cb1 (ev_lock hH fun WL lk => ev_lcP (K := K) (f := fun q : Int × Int => q.2 * (if (s.length : Int) < q.1 then (s.length : Int) else q.1)) (ei_items (ev_rvar (i := 0) rfl) lk.lk (KReps.mono (exExt lk.b) hr)) (fun x v u W' hx g r1 r2 => ?_) (by show kv.length ≤ 100000; omega)) rc_sum
      have := ok.bd x hx
      have eln : EvR pur K (tCB (rLen K) (tCons (tVar 8) tNil)) (((wipe (S none (some vs6) none (some vx)) [2, 9]).set 2 (some v)).set 9 (some u)) W' (s.length : Int) := by
        have rx' := rep_s g (rep_lk lk (x := SeqS.mk s) rx)
        rcases rx' with r | r
        · exact ev_cb1 (ev_var (i := 8) rfl r) rc_lenT
        · exact ev_cb1 (ev_var (i := 8) rfl r) rc_len
      exact ev_op (K := K) (ev_var (i := 9) (x := x.2) rfl r2) (ev_cb2 (ev_var (i := 2) (x := x.1) rfl r1) eln rc_min2) (ro_I (g := fun i j => i * j) (.inr ⟨by split <;> omega, by split <;> omega⟩))
    refine s_when (ε := pur) (b := decide (reachF kv (s.length : Int) < (s.map (at0 wv)).sum)) (et_test (ev_op (K := K) eN eK ro_B0)) trivial (fun hb W6 g6 => ?_) (fun hb W6 g6 => ?_)
    · refine s_ret (ε := pur) (K := K) (x := false) ev_bl trivial fun u W7 g7 ru => ?_
      rw [show u = V.bl false from ru]
      have hf : holdsF kv wv = false := by
        cases e : holdsF kv wv with
        | false => rfl
        | true =>
          have h1 := all.mpr (look.mp e).2 s (List.mem_of_getElem? hs)
          have h2 := of_decide_eq_true hb
          omega
      have g := (G5.trans g6.pure).trans g7.pure
      have := k W7 (M3.trans (Grow.s g)) (tb3.gr g)
      rwa [hf] at this
    · refine ⟨W6, rfl, _, rfl, (g5'.trans g5).trans g6.pure, fun j hj s' hs' => ?_⟩
      rcases Nat.lt_or_ge j i with h | h
      · exact hall j h s' hs'
      · have : j = i := by omega
        subst this
        rw [hs] at hs'
        cases hs'
        have := of_decide_eq_false hb
        omega
  · rintro σ' W5 ⟨a8, rfl, g5, hall⟩
    rw [List.length_map] at hall
    refine s_ret (ε := pur) (K := K) (x := true) ev_bl trivial fun u W6 g6 ru => ?_
    rw [show u = V.bl true from ru]
    have hf : holdsF kv wv = true := look.mpr ⟨hsum, all.mp fun s hs => by
      obtain ⟨j, hj, e⟩ := List.getElem_of_mem hs
      exact hall j hj s (by rw [List.getElem?_eq_getElem hj, e])⟩
    have g := (g4.pure.trans g5).trans g6.pure
    have := k W6 (M3.trans (Grow.s g)) (tb3.gr g)
    rwa [hf] at this
end
end B
/-! law_k22: what is refused; whether heaps are right -/
namespace B
open PySem L2
open PySem.W (Tup T3 T4 Datum DatumOrd)
open Evl (Ex)
def names22 : List Str := ["NoSum", "NoPast", "NoTally"]
/-- a class of refusals: what it is -/
structure Refd (K : Fg) (x : Str) : Prop where
  e : BX.ErrC K (cErr K x)
  l : PySem.W.exmOne K (.ref (cErr K x)) (.ref (cErr K "LeftError")) = some true
  ks : ∀ n ∈ names22, PySem.W.kitOne K (.ref (cErr K x)) (.ref (cErr K n)) = some (decide (n = x))
def AllK (K : Fg) (x : Str) : List Str → Prop
  | [] => True
  | n :: l => PySem.W.kitOne K (.ref (cErr K x)) (.ref (cErr K n)) = some (decide (n = x)) ∧ AllK K x l
theorem refd_mk {K : Fg} {x : Str} : ∀ l : List Str, AllK K x l → ∀ n ∈ l, PySem.W.kitOne K (.ref (cErr K x)) (.ref (cErr K n)) = some (decide (n = x))
  | [], _, n, h => by cases h
  | m :: l, ⟨h1, h2⟩, n, h => by
    rcases List.mem_cons.mp h with e | e
    · rw [e]; exact h1
    · exact refd_mk l h2 n e
theorem sum_le_mem : ∀ {l : List Int}, (∀ x ∈ l, 0 ≤ x) → ∀ x ∈ l, x ≤ l.sum
  | [], _, x, h => by cases h
  | a :: l, h0, x, h => by
    have ha := h0 a List.mem_cons_self
    have hs : 0 ≤ l.sum := by
      have : ∀ m : List Int, (∀ x ∈ m, 0 ≤ x) → 0 ≤ m.sum := by
        intro m
        induction m with
        | nil => intro _; exact Int.le_refl _
        | cons b m ih =>
          intro hm
          have h1 := hm b List.mem_cons_self
          have h2 := ih fun x hx => hm x (List.mem_cons_of_mem _ hx)
          rw [List.sum_cons]
          omega
      exact this l fun x hx => h0 x (List.mem_cons_of_mem _ hx)
    rw [List.sum_cons]
    rcases List.mem_cons.mp h with rfl | h
    · omega
    · have := sum_le_mem (fun x hx => h0 x (List.mem_cons_of_mem _ hx)) x h
      omega
theorem share_len (kv : List (Str × Int)) (s t : Int) : (shareF kv s t).length = kv.length := by
  have : (shareF kv s t).map (·.1) = kv.map (·.1) := by
    unfold shareF
    rw [cut_keys _ _ fun a ha => by rw [abvD_keys]; exact (sortS_perm _).mem_iff.mp ha]
    exact abvD_keys _ _ _
  have := congrArg List.length this
  rwa [List.length_map, List.length_map] at this
theorem heaps_len : ∀ (sz : List (Int × Int)) (kv : List (Str × Int)), (heapsF sz kv).length ≤ sz.length * (kv.length + 2)
  | [], _ => Nat.zero_le _
  | q :: r, kv => by
    show (if 0 < q.2 then laidF (shareF kv q.1 q.2) q.2 ++ heapsF r (leftF kv q.1 q.2) else heapsF r kv).length ≤ (r.length + 1) * (kv.length + 2)
    have e : (r.length + 1) * (kv.length + 2) = r.length * (kv.length + 2) + (kv.length + 2) := by rw [Nat.add_mul, Nat.one_mul]
    split
    · rename_i h
      have h1 := laidF_len (w := shareF kv q.1 q.2) h
      rw [share_len] at h1
      have h2 := heaps_len r (leftF kv q.1 q.2)
      have h3 : (leftF kv q.1 q.2).length = kv.length := by unfold leftF; rw [List.length_map]
      rw [h3] at h2
      rw [List.length_append]
      omega
    · have := heaps_len r kv
      omega
theorem at0_szL {kv : List (Int × Int)} (h : SzOk kv) (z : Int) : at0 (szL kv) z = at0 kv z := by
  have nd : ((szL kv).map (·.1)).Nodup := by
    unfold szL
    rw [List.map_map]
    have e : (downI (kv.map (·.1))).map ((fun x : Int × Int => x.1) ∘ fun z => (z, at0 kv z)) = downI (kv.map (·.1)) := List.map_id _
    rw [e]
    exact (downI_perm _).nodup_iff.mpr h.nd
  by_cases hz : z ∈ kv.map (·.1)
  · have : (z, at0 kv z) ∈ szL kv := List.mem_map.mpr ⟨z, (downI_perm _).mem_iff.mpr hz, rfl⟩
    exact at0_of_mem nd this
  · rw [at0_out hz, at0_out]
    intro h2
    obtain ⟨q, hq, rfl⟩ := List.mem_map.mp h2
    obtain ⟨z, hz2, rfl⟩ := List.mem_map.mp hq
    exact hz ((downI_perm _).mem_iff.mp hz2)
/-- the letters of a set, out of all -/
theorem filter_sub {A s : List Str} (n : A.Nodup) (h : s.Sublist A) : A.filter (fun a => decide (a ∈ s)) = s := by
  induction h with
  | slnil => rfl
  | @cons l m a h ih =>
    have nc := List.nodup_cons.mp n
    rw [List.filter_cons, if_neg (by simpa using fun z => nc.1 (h.subset z)), ih nc.2]
  | @cons_cons l m a h ih =>
    have nc := List.nodup_cons.mp n
    rw [List.filter_cons, if_pos (by simp)]
    congr 1
    have e : m.filter (fun b => decide (b ∈ a :: l)) = m.filter fun b => decide (b ∈ l) := List.filter_congr fun b hb => by
      have : b ≠ a := fun z => nc.1 (z ▸ hb)
      simp [this]
    rw [e]
    exact ih nc.2
def sp__law_refused (K : Fg) : Sp := fun vs H Q _ => ∃ (W : Wd) (v w : V) (kv : List (Int × Int)) (wv : List (Str × Int)), W.H = H ∧ vs = [v, w] ∧ DictAt K W v ⟨kv⟩ ∧ DictAt K W w ⟨wv⟩ ∧ SzOk kv ∧ wv.length ≤ 60 ∧ holdsF kv wv = false ∧ ∀ W', Grow W W' → Q (.bl true) W'.H
theorem len__law_refused {K : Fg} {vs : List V} {H : Hp} {Q : VK} {E : XK} (h : sp__law_refused K vs H Q E) : vs.length = ["_law_lots", "_law_need"].length := by
  obtain ⟨W, v, w, kv, wv, _, rfl, _⟩ := h
  rfl
/-- _law_refused: the slots 0 _law_lots, 1 _law_need, 2 _law_caught, 3 e -/
abbrev n__law_refused : List Str := ["_law_lots", "_law_need", "_law_caught", "e"]
def t__law_refused (K : Fg) : TS := (tSeq (tAsg (tC .non) (gName 2))
  (tSeq (BX.tTryK K (cErr K "LeftError") 3 (fun W => (tDrop (tCallS (sp_heaps K) (WE W) (tCons (tVar 0) (tCons (tVar 1) tNil))))) (fun a cls d => (tAsg (tVar 3) (gName 2))))
  (tRet (tAndV (tCB (BX.rIsK K) (tCons (tVar 2) (tCons (tC (.ref (cErr K "NoSum"))) tNil))) (tAndV (tCB (BX.rIsK K) (tCons (tVar 2) (tCons (tC (.ty "ValueError")) tNil))) (tNotV (tCB (rIsKT K) (tCons (tVar 2) (tCons (tTup (tCons (tC (.ref (cErr K "NoPast"))) (tCons (tC (.ref (cErr K "NoTally"))) tNil))) tNil)))))))))
def sp__law_row_right (K : Fg) : Sp := fun vs H Q _ => ∃ (W : Wd) (v w : V) (r : List Str × Int) (A : List Str), W.H = H ∧ vs = [v, w] ∧ rep K W.B v (rowV r) ∧ rep K W.B w A ∧ sortS A = A ∧ A.Nodup ∧ A.length ≤ 12 ∧ r.1.Sublist A ∧ r.1 ≠ [] ∧ 0 < r.2 ∧ ∀ W', Grow W W' → Q (.bl true) W'.H
theorem len__law_row_right {K : Fg} {vs : List V} {H : Hp} {Q : VK} {E : XK} (h : sp__law_row_right K vs H Q E) : vs.length = ["_law_row", "_law_names_here"].length := by
  obtain ⟨W, v, w, r, A, _, rfl, _⟩ := h
  rfl
/-- _law_row_right: the slots 0 _law_row, 1 _law_names_here, 2 _law_name -/
abbrev n__law_row_right : List Str := ["_law_row", "_law_names_here", "_law_name"]
def t__law_row_right (K : Fg) : TS := (tSeq (tIfS (tOr (tNot (tB (tCB (rIsi K) (tCons (tVar 0) (tCons (tC (.ty "tuple")) tNil))))) (tOr (tTest (tOp rNe (tCB (rLen K) (tCons (tVar 0) tNil)) (tC (.int 2)))) (tOr (tNot (tB (tCB (rIsi K) (tCons (tOp (rIxT K) (tVar 0) (tC (.int 0))) (tCons (tC (.ty "tuple")) tNil))))) (tTest (tOp (rEqT K false) (tOp (rIxT K) (tVar 0) (tC (.int 0))) (tTup tNil)))))) (tRet (tC (.bl false))) tNext)
  (tSeq (tIfS (tTest (tOp (rEqT K true) (tCB (rListO K) (tCons (tOp (rIxT K) (tVar 0) (tC (.int 0))) tNil)) (tLc (iList K (tCB (rSortedS K) (tCons (tVar 1) tNil))) (gName 2) (tTest (tOp (rInTT K false) (tVar 2) (tOp (rIxT K) (tVar 0) (tC (.int 0))))) (tVar 2) [2]))) (tRet (tC (.bl false))) tNext)
  (tRet (tAndV (tCB (rIsi K) (tCons (tOp (rIxT K) (tVar 0) (tC (.int 1))) (tCons (tC (.ty "int")) tNil))) (tAndV (tNotV (tCB (rIsi K) (tCons (tOp (rIxT K) (tVar 0) (tC (.int 1))) (tCons (tC (.ty "bool")) tNil)))) (tOp oGt (tOp (rIxT K) (tVar 0) (tC (.int 1))) (tC (.int 0))))))))
def sp__law_heaps_right (K : Fg) : Sp := fun vs H Q _ => ∃ (W : Wd) (v w : V) (kv : List (Int × Int)) (wv : List (Str × Int)), W.H = H ∧ vs = [v, w] ∧ DictAt K W v ⟨kv⟩ ∧ DictAt K W w ⟨wv⟩ ∧ SzOk kv ∧ (wv.map (·.1)).Nodup ∧ wv.length ≤ 12 ∧ (∀ n ∈ wv.map (·.1), IsWord n) ∧ (∀ q ∈ kv, q.2 ≤ 100000000000) ∧
  holdsF kv wv = true ∧ Maj (sortS (wv.map (·.1))) (at0 wv) (szL kv) ∧ ∀ W', Grow W W' → Q (.bl true) W'.H
theorem len__law_heaps_right {K : Fg} {vs : List V} {H : Hp} {Q : VK} {E : XK} (h : sp__law_heaps_right K vs H Q E) : vs.length = ["_law_lots", "_law_need"].length := by
  obtain ⟨W, v, w, kv, wv, _, rfl, _⟩ := h
  rfl
/-- _law_heaps_right: the slots 0 _law_lots, 1 _law_need, 2 _law_found, 3 _law_names_here, 4 _law_row, 5 _law_told, 6 _law_size, 7 _law_some, 8 _law_times, 9 _law_name -/
abbrev n__law_heaps_right : List Str := ["_law_lots", "_law_need", "_law_found", "_law_names_here", "_law_row", "_law_told", "_law_size", "_law_some", "_law_times", "_law_name"]
def t__law_heaps_right (K : Fg) : TS := (tSeq (tAsg (tTup (tCons (tCall (sp_heaps K) [] E0 (tCons (tVar 0) (tCons (tVar 1) tNil))) (tCons (tCB rSortedDS (tCons (tVar 1) tNil)) tNil))) (gPair K 2 3))
  (tSeq (tIfS (tTest (tOp rNe (tCB (rRepr K) (tCons (tCallKw (sp_heaps K) [1, 0] 2 E0 (tCons (tCB rDictC (tCons (tVar 1) tNil)) (tCons (tCB rDictC (tCons (tVar 0) tNil)) tNil))) tNil)) (tCB (rRepr K) (tCons (tVar 2) tNil)))) (tRet (tC (.bl false))) tNext)
  (tSeq (tIfS (tOr (tNot (tB (tCB (rIsi K) (tCons (tVar 2) (tCons (tC (.ty "list")) tNil))))) (tTest (tOp (rEqT K true) (tLc (iList K (tVar 2)) (gName 4) (tNot (tB (tCall (sp__law_row_right K) [] E0 (tCons (tVar 4) (tCons (tVar 3) tNil))))) (tVar 4) [4]) (tLst tNil)))) (tRet (tC (.bl false))) tNext)
  (tSeq (tAsg (tLc (iList K (tVar 2)) (gName 4) tYes (tCB (rLen K) (tCons (tOp (rIxT K) (tVar 4) (tC (.int 0))) tNil)) [4]) (gName 5))
  (tSeq (tIfS (tOr (tTest (tOp (rEqT K true) (tVar 5) (tRevL K (tCB (rSortedI K) (tCons (tVar 5) tNil))))) (tTest (tOp (rEqT K true) (tLc (iList K (tVar 5)) (gName 6) (tTest (tOp oGt (tBM K "list" (rCntF K) (tVar 5) (tCons (tVar 6) tNil)) (tC (.int 13)))) (tVar 6) [6]) (tLst tNil)))) (tRet (tC (.bl false))) tNext)
  (tSeq (tFor (iRng2 (tCons (tC (.int 1)) (tCons (tC (.int 13)) tNil))) (gName 6)
  (tIfS (tTest (tOp rNe (tCB (rSum K) (tCons (tLc (iList K (tVar 2)) (gPair K 7 8) (tTest (tOp rEq (tCB (rLen K) (tCons (tVar 7) tNil)) (tVar 6))) (tVar 8) [7, 8]) tNil)) (tDGet2 (tVar 0) (tVar 6) (tC (.int 0))))) (tRet (tC (.bl false))) tNext))
  (tRet (tCB (rAll K) (tCons (tLc (iList K (tVar 3)) (gName 9) tYes (tOp rEq (tCB (rSum K) (tCons (tLc (iList K (tVar 2)) (gPair K 7 8) (tTest (tOp (rInTT K false) (tVar 9) (tVar 7))) (tVar 8) [7, 8]) tNil)) (tDGet (tVar 1) (tVar 9))) [9]) tNil)))))))))
def shL (ds : List PyData) : Str := listText (PyData.shownAll ds)
section
variable {K : Fg} {W : Wd} {σ : SS} {ε : Ef} {te tv : TE}
theorem ty_pair {α β : Type} [Py α] [Py β] {x : α × β} (W1 : Wd) (v : V) (h : rep K W1.B v x) : TyX K W1.H v (.type "tuple") := by
  obtain ⟨a, u, w, rfl, h1, _⟩ := h
  exact .base (.tup (W1.sub.et h1))
theorem rc_lenP {α β : Type} [Py α] [Py β] {x : α × β} : RC1 K (rLen K) x (2 : Int) := fun v W1 ⟨a, u, w, e, h1, _⟩ Q k => ⟨a, [u, w], by rw [e], .inr (SqT.of (W1.sub.et h1)), k _ W1 (.refl _ _) rfl⟩
theorem rc_sortedSS {xs : List Str} (h : xs.length < 64) : RC1 K (rSortedS K) xs (sortS xs) := fun v W1 ⟨a, vs, e, s, r⟩ Q k => by
  have e2 := reps_str r
  subst e2
  refine ⟨a, xs, by rw [e], SqL.of (W1.sub.el s), h, fun ys p h1 h2 hp => ?_⟩
  rw [sortS_eq h1 (sorted_pw h2)]
  exact k _ (W1.add p _) (W1.grow_add hp) ⟨p, _, rfl, upd_same, str_reps _⟩
/-- how often a number stands there -/
theorem ev_countI {xs : List Int} {z : Int} (h : EvR ε K te σ W xs) (hz : EvR ε K tv σ W z) : EvR ε K (tBM K "list" (rCntF K) te (tCons tv tNil)) σ W ((xs.countP (fun y => decide (y = z)) : Nat) : Int) := fun W1 g1 Q k => h W1 g1 _ fun v W2 g2 rv => by
  obtain ⟨a0, vs0, e0, s0, r0⟩ := id rv
  subst e0
  refine ⟨.inl ⟨rfl, vs0, SqL.of (W2.sub.el s0)⟩, hz W2 (g1.trans g2) _ fun u W3 g3 ru => ?_⟩
  obtain ⟨a, vs, e, s, r⟩ := rep_s g3 rv
  have e2 := reps_int r
  subst e2
  cases e
  have sq := SqL.of (K := K) (W3.sub.el s)
  refine ⟨_, xs.map V.int, u, rfl, rfl, sq, by rw [show u = V.int z from ru]; rfl, by rw [List.all_map]; simp [flatV], ?_⟩
  have : (xs.map V.int).countP (fun y => eqV y u) = xs.countP fun y => decide (y = z) := by
    rw [List.countP_map, show u = V.int z from ru]
    congr 1
  rw [this]
  exact k _ W3 (g2.trans g3) rfl
theorem q_tup2 {P1 P2 : V → Wd → Prop} {a b : Nat} {t1 t2 : TE} {D : L2.Ends} {tz : TS} (h1 : EvP ε t1 σ W P1) (h2 : EvP ε t2 σ W P2) (m1 : ∀ v W1 W2, Stp ε W1 W2 → P1 v W1 → P1 v W2) (m2 : ∀ v W1 W2, Stp ε W1 W2 → P2 v W1 → P2 v W2) (s : ε.I W)
    (k : ∀ v1 v2 W', Stp ε W W' → P1 v1 W' → P2 v2 W' → tz D ((σ.set a (some v1)).set b (some v2)) W'.H) : tSeq (tAsg (tTup (tCons t1 (tCons t2 tNil))) (gPair K a b)) tz D σ W.H :=
  h1 W (.start s) _ fun v1 W1 g1 p1 => h2 W1 g1 _ fun v2 W2 g2 p2 => ⟨Evl.sz_of (by show 2 ≤ 100000; decide), fun p hp => by
    have G : Stp ε W2 (W2.add p (.tup [v1, v2])) := Stp.and (.start g2.i) (W2.grow_add hp)
    exact ⟨p, [v1, v2], rfl, SqT.of upd_same, rfl, v1, [v2], rfl, v2, [], rfl, rfl, k v1 v2 (W2.add p _) ((g1.trans g2).trans G) (m1 _ _ _ G (m1 _ _ _ g2 p1)) (m2 _ _ _ G p2)⟩⟩
theorem show_tup {b : Nat} {ds : List PyData} (h : ∀ d ∈ ds, ShowOk b d) : ShowOk (ds.length * b + 2 * ds.length + 40) (.tuple ds) := by
  obtain ⟨a1, a2, a3, a4⟩ := show_all ds h
  refine ⟨by simp [PyData.showable, a1], by simp [PyData.hasDict, a2], ?_⟩
  simp only [PyData.shown]
  have := tupleText_len_le (PyData.shownAll ds)
  rw [a4] at this
  omega
theorem shL_len {b : Nat} {ds : List PyData} (h : ∀ d ∈ ds, ShowOk b d) : (shL ds).length ≤ ds.length * b + 2 * ds.length + 3 := by
  obtain ⟨_, _, a3, a4⟩ := show_all ds h
  have := listText_len_le (PyData.shownAll ds)
  unfold shL
  rw [a4] at this
  omega
/-- repr(list), a long one -/
theorem ev_reprB {α : Type} [DecidableEq α] [Datum α] [Py α] [PyD α] {b : Nat} {xs : List α} (h : EvR ε K te σ W xs) (hs : ∀ x ∈ xs, ShowOk b (Datum.toD x)) (hd : Datum.depth α ≤ 40) (hl : xs.length * b + 2 * xs.length + 3 ≤ 16000000) : EvR ε K (tCB (rRepr K) (tCons te tNil)) σ W (shL (xs.map Datum.toD)) := fun W1 g1 Q k => h W1 g1 _ fun v W2 g2 r => by
  have hs' : ∀ d ∈ xs.map Datum.toD, ShowOk b d := fun d hd => by
    obtain ⟨x, hx, rfl⟩ := List.mem_map.mp hd
    exact hs x hx
  obtain ⟨a1, a2, _, _⟩ := show_all _ hs'
  have := shL_len hs'
  rw [List.length_map] at this
  exact ⟨v, xs.map Datum.toD, rfl, PyD.dp (rep_h r), a1, a2, Nat.le_trans (PySem.W.depthAll_map xs) hd, Nat.le_trans this (Nat.le_trans hl (by decide)), k _ W2 g2 rfl⟩
theorem ev_heaps {t1 t2 : TE} {v w : V} {kv : List (Int × Int)} {wv : List (Str × Int)} {i j : Nat} (h1 : σ[i]? = some (some v)) (h2 : σ[j]? = some (some w)) (dv : DictAt K W v ⟨kv⟩) (dw : DictAt K W w ⟨wv⟩) (ok : SzOk kv) (nd : (wv.map (·.1)).Nodup) (hl : wv.length ≤ 60) (hh : holdsF kv wv = true) (mj : Maj (sortS (wv.map (·.1))) (at0 wv) (szL kv)) :
    EvR pur K (tCall (sp_heaps K) [] E0 (tCons (tVar i) (tCons (tVar j) tNil))) σ W ((heapsF (szL kv) wv).map rowV) := fun W1 g1 Q k =>
  ⟨_, h1, _, h2, .inl ⟨W1, v, w, kv, wv, rfl, rfl, dv.s g1, dw.s g1, ok, nd, hl, hh, mj, fun u W2 g2 r => k u W2 (.of g2) r⟩⟩
end
section
variable {K : Fg} {vs : List V} {H : Hp} {Q : VK} {E : XK}
theorem ev_isK {W : Wd} {σ : SS} {i : Nat} {a : Addr} {x n : Str} (h0 : σ[i]? = some (some (.ref a))) (ha : W.H a = some (BX.ExK (.ref (cErr K x)) none a)) (r : Refd K x) (hn : n ∈ names22) : EvR pur K (tCB (BX.rIsK K) (tCons (tVar i) (tCons (tC (.ref (cErr K n))) tNil))) σ W (decide (n = x)) := fun W1 g1 Q k =>
  ⟨_, h0, a, cErr K x, .ref (cErr K n), .ref (cErr K n), _, rfl, g1.pure.h a _ ha, r.e.c, fun u h => by cases h; rfl, r.ks n hn, k _ W1 g1.rf rfl⟩
theorem ev_isKT2 {W : Wd} {σ : SS} {i : Nat} {a : Addr} {x n1 n2 : Str} (h0 : σ[i]? = some (some (.ref a))) (ha : W.H a = some (BX.ExK (.ref (cErr K x)) none a)) (r : Refd K x) (h1 : n1 ∈ names22) (h2 : n2 ∈ names22) (d1 : decide (n1 = x) = false) (d2 : decide (n2 = x) = false) :
    EvR pur K (tCB (rIsKT K) (tCons (tVar i) (tCons (tTup (tCons (tC (.ref (cErr K n1))) (tCons (tC (.ref (cErr K n2))) tNil))) tNil))) σ W false := fun W1 g1 Q k =>
  ⟨_, h0, Evl.sz_of (by show 2 ≤ 100000; decide), fun p hp => ⟨a, cErr K x, p, [.ref (cErr K n1), .ref (cErr K n2)], [.ref (cErr K n1), .ref (cErr K n2)], false, rfl, by
    have pa : a ≠ p := fun z => by rw [← z, g1.pure.h a _ ha] at hp; cases hp
    rw [upd_ne pa]
    exact g1.pure.h a _ ha, r.e.c, upd_same, .cons (.own _) (.cons (.own _) .nil), by
    have k1 := r.ks n1 h1
    have k2 := r.ks n2 h2
    rw [d1] at k1
    rw [d2] at k2
    exact kitAny_cons k1 (fun _ => kitAny_cons k2 (fun _ => kitAny_nil) (fun z => by cases z)) (fun z => by cases z), k _ (W1.add p (.tup _)) (.of (W1.grow_add hp)) rfl⟩⟩
theorem rd__law_refused (r : Refd K "NoSum") (h : sp__law_refused K vs H Q E) : t__law_refused K { nx := fun _ H' => Q .non H', rt := Q } (start n__law_refused vs) H := by
  obtain ⟨W, v, w, kv, wv, rfl, rfl, dv, dw, ok, hl, hf, k⟩ := h
  show t__law_refused K _ [some v, some w, none, none] W.H
  refine q_asg (ε := pur) (K := K) (x := ()) ev_non trivial fun v2 W1 g1 r2 => ?_
  rw [show v2 = V.non from r2]
  have m1 : ("NoSum" : Str) ∈ names22 := by decide +kernel
  have m2 : ("NoPast" : Str) ∈ names22 := by decide +kernel
  have m3 : ("NoTally" : Str) ∈ names22 := by decide +kernel
  refine ⟨_, rfl, _, rfl, .inr ⟨W1, v, w, kv, wv, rfl, rfl, dv.s g1, dw.s g1, ok, hl, hf, fun W2 g2 => ⟨true, r.l, fun _ a ha => ⟨_, rfl, fun ha' => ?_⟩, fun z => by cases z⟩⟩⟩
  let W3 := W2.put a (BX.ExK (.ref (cErr K "NoSum")) none a) (W2.free ha)
  have ha3 : W3.H a = some (BX.ExK (.ref (cErr K "NoSum")) none a) := upd_same
  have G3 : Grow W W3 := (g1.pure.trans g2).trans (W2.grow_put ha)
  have fin : EvR pur K (tCB (BX.rIsK K) (tCons (tVar 2) (tCons (tC (.ty "ValueError")) tNil))) [some v, some w, some (.ref a), none] W3 true := fun W5 g5 Q k =>
    ⟨_, rfl, a, cErr K "NoSum", .ty "ValueError", .type "ValueError", true, rfl, g5.pure.h a _ ha3, r.e.c, fun u h => by cases h; rfl, r.e.v, k _ W5 g5.rf rfl⟩
  dsimp only
  show tRet _ _ [some v, some w, some (.ref a), none] W3.H
  refine s_ret (ε := pur) (K := K) (x := true) (EvR.is (ev_andV (a := true) (b := true) (EvR.is (ev_isK (i := 2) rfl ha3 r m1) (by decide +kernel)) fun _ => EvR.is (ev_andV (a := true) (b := true) fin fun _ => EvR.is (ev_notV (ev_isKT2 (i := 2) rfl ha3 r m2 m3 (by decide +kernel) (by decide +kernel))) rfl) rfl) rfl) trivial fun z W5 g5 rz => ?_
  rw [show z = V.bl true from rz]
  exact k W5 (G3.trans g5.pure)
theorem rd__law_row_right (h : sp__law_row_right K vs H Q E) : t__law_row_right K { nx := fun _ H' => Q .non H', rt := Q } (start n__law_row_right vs) H := by
  obtain ⟨W, v, w, r, A, rfl, rfl, rv, ra, hA, nA, lA, sb, ne, pos, k⟩ := h
  show t__law_row_right K _ [some v, some w, none] W.H
  have er : ∀ {W' : Wd} {σ : SS}, σ[0]? = some (some v) → rep K W'.B v (rowV r) → EvR pur K (tVar 0) σ W' (rowV r) := fun h r => ev_var h r
  have e0 : ∀ {W' : Wd} {σ : SS}, σ[0]? = some (some v) → rep K W'.B v (rowV r) → EvR pur K (tOp (rIxT K) (tVar 0) (tC (.int 0))) σ W' (Tup.mk r.1) := fun h r => ev_op (K := K) (ev_var h r) ev_int ro_ixP0
  have e1 : ∀ {W' : Wd} {σ : SS}, σ[0]? = some (some v) → rep K W'.B v (rowV r) → EvR pur K (tOp (rIxT K) (tVar 0) (tC (.int 1))) σ W' r.2 := fun h r => ev_op (K := K) (ev_var h r) ev_int ro_ixP1
  refine q_when (ε := pur) (b := false) (EvT.is (et_or (a := false) (b := false) (EvT.is (et_not (et_B (ev_cb2 (ev_var (i := 0) rfl rv) ev_raw (rc_isi (b := true) ty_pair (by decide +kernel))))) rfl) fun _ => EvT.is (et_or (a := false) (b := false) (EvT.is (et_test (ev_op (K := K) (ev_cb1 (ev_var (i := 0) rfl rv) rc_lenP) ev_int ro_neI)) (by decide)) fun _ => EvT.is (et_or (a := false) (b := false) (EvT.is (et_not (et_B (ev_cb2 (e0 rfl rv) ev_raw (rc_isi (b := true) ty_tup (by decide +kernel))))) rfl) fun _ => EvT.is (et_test (ev_op (K := K) (e0 rfl rv) (ev_tupN (K := K) (xs := ([] : List Str)) ea_nil (by decide)) (ro_eqT (by decide)))) (by simpa using ne)) rfl) rfl) rfl) trivial (fun z => by cases z) fun _ W1 g1 => ?_
  have rv1 := rep_s g1 rv
  have ra1 := rep_s g1 ra
  have eL : EvR pur K (tLc (iList K (tCB (rSortedS K) (tCons (tVar 1) tNil))) (gName 2) (tTest (tOp (rInTT K false) (tVar 2) (tOp (rIxT K) (tVar 0) (tC (.int 0))))) (tVar 2) [2]) [some v, some w, none] W1 r.1 := by
    refine EvR.is (ev_lcNt (K := K) (xs := sortS A) (p := fun a => decide (a ∈ r.1)) (f := id) (EvJ.i (ei_list (ev_cb1 (ev_var (i := 1) rfl ra1) (rc_sortedSS (by omega))))) (fun x v' W' hx g rx => et_test (ev_op (K := K) (ev_var (i := 2) rfl rx) (e0 rfl (rep_s g rv1)) (ro_inT (by decide)))) (fun x v' W' hx _ g rx => ev_var (i := 2) rfl rx) (by rw [hA]; omega)) ?_
    rw [List.map_id, hA]
    exact filter_sub nA sb
  refine q_when (ε := pur) (b := false) (EvT.is (et_test (ev_op (K := K) (ev_cb1 (e0 rfl rv1) rc_listT) eL (ro_neT (by decide)))) (by simp)) trivial (fun z => by cases z) fun _ W2 g2 => ?_
  have rv2 := rep_s g2 rv1
  refine s_ret (ε := pur) (K := K) (x := true) (EvR.is (ev_andV (a := true) (b := true) (ev_cb2 (e1 rfl rv2) ev_raw (rc_isi (b := true) ty_int (by decide +kernel))) fun _ => EvR.is (ev_andV (a := true) (b := true) (EvR.is (ev_notV (ev_cb2 (e1 rfl rv2) ev_raw (rc_isi (b := false) ty_int (by decide +kernel)))) rfl) fun _ => EvR.is (ev_op (K := K) (e1 rfl rv2) ev_int ro_B0) (decide_eq_true pos)) rfl) rfl) trivial fun z W3 g3 rz => ?_
  rw [show z = V.bl true from rz]
  exact k W3 ((g1.pure.trans g2.pure).trans g3.pure)
end
end B
/-! law_k22: whether heaps are right -/
namespace B
open PySem L2
open PySem.W (Tup T3 T4 Datum DatumOrd)
open Evl (Ex)
theorem filter_rowV (rows : List (List Str × Int)) (p : Tup Str × Int → Bool) (f : Tup Str × Int → Int) : (((rows.map rowV).filter p).map f) = (rows.filter fun r => p (rowV r)).map fun r => f (rowV r) := by
  rw [List.filter_map, List.map_map]
  rfl
section
variable {K : Fg} {vs : List V} {H : Hp} {Q : VK} {E : XK}
theorem rd__law_heaps_right (h : sp__law_heaps_right K vs H Q E) : t__law_heaps_right K { nx := fun _ H' => Q .non H', rt := Q } (start n__law_heaps_right vs) H := by
  obtain ⟨W, v, w, kv, wv, rfl, rfl, dv, dw, ok, nd, l12, wd, bd, hh, mj, k⟩ := h
  obtain ⟨av, _, rfl, _⟩ := id dv
  obtain ⟨aw, _, rfl, _⟩ := id dw
  show t__law_heaps_right K _ [some (.ref av), some (.ref aw), none, none, none, none, none, none, none, none] W.H
  let A := sortS (wv.map (·.1))
  let rows := heapsF (szL kv) wv
  have hr : HRight A (at0 wv) (szL kv) rows := heaps_right nd (szL_ok ok) mj
  have Ap := sortS_perm (wv.map (·.1))
  have nA : A.Nodup := Ap.nodup_iff.mpr nd
  have lA : A.length ≤ 12 := by rw [Ap.length_eq, List.length_map]; exact l12
  have sA : sortS A = A := (sortS_eq (xs := A) (.refl _) (sortS_pw _)).symm
  have kl := ok.len
  have rl : rows.length ≤ 168 := by
    have h1 := heaps_len (szL kv) wv
    have h2 := szL_len ok
    have h3 : (szL kv).length * (wv.length + 2) ≤ 12 * 14 := Nat.mul_le_mul h2 (by omega)
    exact Nat.le_trans h1 h3
  have r1 : ∀ r ∈ rows, r.1 ≠ [] := fun r hr' z => by
    obtain ⟨_, _, q, hq, e⟩ := hr.row r hr'
    have := (szL_ok ok).rng q hq
    rw [z] at e
    simp at e
    omega
  have wA : ∀ a ∈ A, IsWord a := fun a ha => wd a (Ap.mem_iff.mp ha)
  have tm : ∀ r ∈ rows, r.2 ≤ 100000000000 := fun r hr' => by
    have h1 := hr.size r.1.length
    have h2 := sum_le_mem (l := ((rows.filter fun x => decide (x.1.length = r.1.length)).map (·.2))) (fun x hx => by
      obtain ⟨y, hy, rfl⟩ := List.mem_map.mp hx
      have := (hr.row y (List.mem_filter.mp hy).1).2.1
      omega) r.2 (List.mem_map.mpr ⟨r, List.mem_filter.mpr ⟨hr', decide_eq_true rfl⟩, rfl⟩)
    rw [h1, at0_szL ok] at h2
    exact Int.le_trans h2 (at0_bd bd (by omega) _)
  have sok : ∀ x ∈ rows.map rowV, ShowOk 46239 (Datum.toD x) := fun x hx => by
    obtain ⟨r, hr', rfl⟩ := List.mem_map.mp hx
    obtain ⟨sb, pos, _⟩ := hr.row r hr'
    have h1 : ShowOk 23116 (.tuple (r.1.map Datum.toD)) := (show_tup (b := 1921) (ds := r.1.map Datum.toD) fun d hd => by
      obtain ⟨a, ha, rfl⟩ := List.mem_map.mp hd
      exact show_word (wA a (sb.subset ha))).up (by
        have := sb.length_le
        rw [List.length_map]
        omega)
    exact show_pair h1 ((show_int (log_small (i := r.2) (by omega) (by have := tm r hr'; omega))).up (by decide))
  have lenB : (rows.map rowV).length * 46239 + 2 * (rows.map rowV).length + 3 ≤ 16000000 := by rw [List.length_map]; omega
  -- found, names
  refine q_tup2 (ε := pur) (K := K) (P1 := fun v W => rep K W.B v (rows.map rowV)) (P2 := fun v W => rep K W.B v A) (EvR.p (ev_heaps (t1 := tVar 0) (t2 := tVar 0) (i := 0) (j := 1) rfl rfl dv dw ok nd (by omega) hh mj)) (EvR.p (ev_sortedDS (ev_dvar (i := 1) rfl dw).rep (by omega))) (fun v W1 W2 g r => rep_s g r) (fun v W1 W2 g r => rep_s g r) trivial fun vf vn W1 g1 rf rn => ?_
  have dv1 := dv.s g1
  have dw1 := dw.s g1
  let S : Option V → Option V → Option V → Option V → Option V → Option V → SS := fun a4 a5 a6 a7 a8 a9 => [some (.ref av), some (.ref aw), some vf, some vn, a4, a5, a6, a7, a8, a9]
  show tSeq _ _ _ (S none none none none none none) W1.H
  have eH : EvR pur K (tCallKw (sp_heaps K) [1, 0] 2 E0 (tCons (tCB rDictC (tCons (tVar 1) tNil)) (tCons (tCB rDictC (tCons (tVar 0) tNil)) tNil))) (S none none none none none none) W1 (rows.map rowV) := fun W2 g2 Q k =>
    ed_copy (ε := pur) (K := K) (d := (⟨wv⟩ : Dict Str Int)) (σ := S none none none none none none) (ev_dvar (i := 1) rfl dw1).rep W2 g2 _ fun u W3 g3 du => ed_copy (ε := pur) (K := K) (d := (⟨kv⟩ : Dict Int Int)) (σ := S none none none none none none) (ev_dvar (i := 0) rfl dv1).rep W3 (g2.trans g3) _ fun u2 W4 g4 du2 => ⟨rfl, .inl ⟨W4, u2, u, kv, wv, rfl, rfl, du2, du.s g4, ok, nd, by omega, hh, mj, fun z W5 g5 r => k z W5 ((g3.trans g4).and g5) r⟩⟩
  refine q_when (ε := pur) (b := false) (EvT.is (et_test (ev_op (K := K) (ev_reprB (b := 46239) eH sok (by decide) lenB) (ev_reprB (b := 46239) (ev_var (i := 2) rfl rf) sok (by decide) lenB) ro_neS)) (by simp)) trivial (fun z => by cases z) fun _ W2 g2 => ?_
  have rf2 := rep_s g2 rf
  have rn2 := rep_s g2 rn
  have eR : EvR pur K (tLc (iList K (tVar 2)) (gName 4) (tNot (tB (tCall (sp__law_row_right K) [] E0 (tCons (tVar 4) (tCons (tVar 3) tNil))))) (tVar 4) [4]) (S none none none none none none) W2 ([] : List (Tup Str × Int)) := by
    refine EvR.is (ev_lcNt (K := K) (xs := rows.map rowV) (p := fun _ => false) (f := id) (EvJ.i (ei_list (ev_var (i := 2) rfl rf2))) (fun x v' W' hx g rx => ?_) (fun x v' W' hx hp => by cases hp) (by rw [List.length_map]; omega)) (by simp)
    obtain ⟨r, hr', rfl⟩ := List.mem_map.mp hx
    obtain ⟨sb, pos, _⟩ := hr.row r hr'
    refine EvT.is (et_not (et_B (K := K) (b := true) fun W3 g3 Q k => ⟨_, rfl, _, rfl, W3, v', vn, r, A, rfl, rfl, rep_s g3 rx, rep_s g3 (rep_s g rn2), sA, nA, lA, sb, r1 r hr', pos, fun W4 g4 => k _ W4 (.of g4) rfl⟩)) rfl
  refine q_when (ε := pur) (b := false) (EvT.is (et_or (a := false) (b := false) (EvT.is (et_not (et_B (ev_cb2 (ev_var (i := 2) rfl rf2) ev_raw (rc_isi (b := true) ty_lst (by decide +kernel))))) rfl) fun _ => EvT.is (et_test (ev_op (K := K) eR (ev_lst ea_nil (by decide)) (ro_neT (by decide)))) (by simp)) rfl) trivial (fun z => by cases z) fun _ W3 g3 => ?_
  have rf3 := rep_s g3 rf2
  let told : List Int := rows.map fun r => (r.1.length : Int)
  refine q_asg (ε := pur) (K := K) (x := told) (EvR.is (ev_lcN (K := K) (xs := rows.map rowV) (f := fun x => (x.1.items.length : Int)) (EvJ.i (ei_list (ev_var (i := 2) rfl rf3))) (fun x v' W' hx g rx => ev_cb1 (ev_op (K := K) (ev_var (i := 4) rfl rx) ev_int ro_ixP0) rc_lenT) (by rw [List.length_map]; omega)) (by rw [List.map_map]; rfl)) trivial fun vt W4 g4 rt => ?_
  have tl : told.length ≤ 168 := by rw [List.length_map]; exact rl
  have rf4 := rep_s g4 rf3
  show tSeq _ _ _ (S none (some vt) none none none none) W4.H
  have tfall : told.reverse.Pairwise (· ≤ ·) := by
    rw [List.pairwise_reverse]
    show List.Pairwise _ (rows.map fun r => (r.1.length : Int))
    rw [List.pairwise_map]
    exact hr.fall.imp fun h => by omega
  have eC : EvR pur K (tLc (iList K (tVar 5)) (gName 6) (tTest (tOp oGt (tBM K "list" (rCntF K) (tVar 5) (tCons (tVar 6) tNil)) (tC (.int 13)))) (tVar 6) [6]) (S none (some vt) none none none none) W4 ([] : List Int) := by
    refine EvR.is (ev_lcNt (K := K) (xs := told) (p := fun z => decide ((13 : Int) < ((told.countP (fun y => decide (y = z)) : Nat) : Int))) (f := id) (EvJ.i (ei_list (ev_var (i := 5) rfl rt))) (fun x v' W' hx g rx => et_test (ev_op (K := K) (ev_countI (ev_var (i := 5) rfl (rep_s g rt)) (ev_var (i := 6) rfl rx)) ev_int ro_B0)) (fun x v' W' hx hp g rx => ev_var (i := 6) rfl rx) (by omega)) ?_
    rw [List.map_id, List.filter_eq_nil_iff]
    intro z hz
    obtain ⟨r, hr', rfl⟩ := List.mem_map.mp hz
    have h1 := hr.few r.1.length
    have h2 : told.countP (fun y => decide (y = (r.1.length : Int))) = (rows.filter fun x => decide (x.1.length = r.1.length)).length := by
      show (rows.map fun r => (r.1.length : Int)).countP _ = _
      rw [List.countP_map, List.countP_eq_length_filter]
      congr 1
      refine List.filter_congr fun x _ => ?_
      show decide ((x.1.length : Int) = (r.1.length : Int)) = _
      exact decide_eq_decide.mpr (by omega)
    rw [h2]
    simp only [decide_eq_true_eq]
    omega
  refine q_when (ε := pur) (b := false) (EvT.is (et_or (a := false) (b := false) (EvT.is (et_test (ev_op (K := K) (ev_var (i := 5) rfl rt) (ev_revL (ev_cb1 (ev_var (i := 5) rfl rt) (rc_sortedI (List.reverse_perm told) tfall))) (ro_neT (by decide)))) (by simp)) fun _ => EvT.is (et_test (ev_op (K := K) eC (ev_lst ea_nil (by decide)) (ro_neT (by decide)))) (by simp)) rfl) trivial (fun z => by cases z) fun _ W5 g5 => ?_
  have G5 := (((g1.pure.trans g2.pure).trans g3.pure).trans g4.pure).trans g5.pure
  have rf5 := rep_s g5 rf4
  have rn5 : rep K W5.B vn A := rep_s g5 (rep_s g4 (rep_s g3 rn2))
  have dv5 := dv.g G5
  have dw5 := dw.g G5
  refine q_for (ε := pur) (K := K) (W := W5) (σ := S none (some vt) none none none none) (xs := rng 1 ((13 : Int) - 1).toNat) (ei_rng2 (m := 1) (n := 13) ev_int ev_int (by decide)) trivial fun W6 g6 =>
    ⟨fun i σ W' => ∃ a6 : Option V, σ = S none (some vt) a6 none none none ∧ Grow W6 W', ⟨none, rfl, .refl _ _⟩, fun i σ' W' ⟨_, _, g⟩ => g.on, ?_, ?_⟩
  · rintro i z vz σ' W7' W7 hi hz ⟨a6, rfl, g7'⟩ g7 rz
    have hz2 := rng_mem.mp (List.mem_of_getElem? hz)
    obtain ⟨zn, rfl⟩ : ∃ n : Nat, z = (n : Int) := ⟨z.toNat, by omega⟩
    rw [show vz = V.int zn from rz]
    have G7 := g6.pure.trans (g7'.trans g7)
    have rf7 := rep_g G7 rf5
    have dv7 := dv5.g G7
    show tIfS _ _ _ _ (S none (some vt) (some (.int (zn : Int))) none none none) W7.H
    have eS : EvR pur K (tCB (rSum K) (tCons (tLc (iList K (tVar 2)) (gPair K 7 8) (tTest (tOp rEq (tCB (rLen K) (tCons (tVar 7) tNil)) (tVar 6))) (tVar 8) [7, 8]) tNil)) (S none (some vt) (some (.int (zn : Int))) none none none) W7 (at0 kv (zn : Int)) := by
      refine EvR.is (ev_cb1 (ev_lcPt (K := K) (xs := rows.map rowV) (p := fun x => decide ((x.1.items.length : Int) = (zn : Int))) (f := fun x => x.2) (EvJ.i (ei_list (ev_var (i := 2) rfl rf7))) (fun x v' u' W' hx g r1 r2 => et_test (ev_op (K := K) (ev_cb1 (ev_var (i := 7) (x := x.1) rfl r1) rc_lenT) (ev_var (i := 6) (x := (zn : Int)) rfl rfl) ro_eqI)) (fun x v' u' W' hx _ g r1 r2 => ev_var (i := 8) (x := x.2) rfl r2) (by rw [List.length_map]; omega)) rc_sum) ?_
      rw [filter_rowV, ← at0_szL ok, ← hr.size zn]
      congr 2
      refine List.filter_congr fun x _ => ?_
      show decide ((x.1.length : Int) = (zn : Int)) = _
      exact decide_eq_decide.mpr (by omega)
    refine s_when (ε := pur) (b := false) (EvT.is (et_test (ev_op (K := K) eS (ev_dget2E (ev_rvar (i := 0) rfl) dv7.stay (ek_int (K := K) (ev_var (i := 6) rfl rfl)) ev_int) ro_neI)) ?_) trivial (fun z => by cases z) fun _ W8 g8 => ⟨W8, rfl, _, rfl, (g7'.trans g7).trans g8.pure⟩
    show (!decide (at0 kv (zn : Int) = (klook kv (zn : Int)).getD 0)) = false
    rw [show (klook kv (zn : Int)).getD 0 = at0 kv (zn : Int) from rfl]
    simp
  · rintro σ' W7 ⟨a6, rfl, g7⟩
    have G7 := g6.pure.trans g7
    have rf7 := rep_g G7 rf5
    have rn7 := rep_g G7 rn5
    have dw7 := dw5.g G7
    refine s_ret (ε := pur) (K := K) (x := true) (EvR.is (ev_cb1 (ev_lcN (K := K) (xs := A) (f := fun _ => true) (EvJ.i (ei_list (ev_var (i := 3) rfl rn7))) (fun a va W' ha g ra => ?_) (by omega)) rc_all) (by simp)) trivial fun z W8 g8 rz => ?_
    · rw [show va = V.str a from ra]
      have am : a ∈ wv.map (·.1) := Ap.mem_iff.mp ha
      refine EvR.is (ev_op (K := K) (x := at0 wv a) (y := at0 wv a) (EvR.is (ev_cb1 (ev_lcPt (K := K) (xs := rows.map rowV) (p := fun x => decide (a ∈ x.1.items)) (f := fun x => x.2) (EvJ.i (ei_list (ev_var (i := 2) rfl (rep_s g rf7)))) (fun x v' u' W2 hx g2 r1 r2 => et_test (ev_op (K := K) (ev_var (i := 9) (x := a) rfl rfl) (ev_var (i := 7) (x := x.1) rfl r1) (ro_inT (by decide)))) (fun x v' u' W2 hx _ g2 r1 r2 => ev_var (i := 8) (x := x.2) rfl r2) (by rw [List.length_map]; omega)) rc_sum) ?_) (ev_dgetE (ev_rvar (i := 1) rfl) (dw7.s g).stay (ek_str (K := K) (ev_var (i := 9) rfl rfl)) (klook_at0 am)) ro_eqI) (by simp)
      rw [filter_rowV, ← hr.name a ha]
      rfl
    · rw [show z = V.bl true from rz]
      exact k W8 ((G5.trans G7).trans g8.pure)
end
end B
/-! law_k22: the law -/
namespace B
open PySem L2 LamX
open PySem.W (Tup T3 T4 Datum DatumOrd)
open Evl (Ex)
/-! ### plainly -/
theorem szL_perm {kv : List (Int × Int)} (h : SzOk kv) : (szL kv).Perm kv := by
  have e : kv = (kv.map (·.1)).map fun z => (z, at0 kv z) := by
    rw [List.map_map]
    conv => lhs; rw [← List.map_id kv]
    refine List.map_congr_left fun q hq => ?_
    show q = (q.1, at0 kv q.1)
    rw [at0_of_mem h.nd hq]
  unfold szL
  conv => rhs; rw [e]
  exact (downI_perm _).map _
theorem reach_szL {kv : List (Int × Int)} (h : SzOk kv) (m : Int) : reachF (szL kv) m = reachF kv m := by
  unfold reachF
  exact sum_permI ((szL_perm h).map _)
theorem maj_ok {kv : List (Int × Int)} {names : List Str} {wv : List (Str × Int)} (ok : SzOk kv) (wo : WOk names wv) (nA : names.Nodup) (n12 : names.length ≤ 12) (h : holdsF kv wv = true) : Maj (sortS (wv.map (·.1))) (at0 wv) (szL kv) := by
  obtain ⟨h1, h2⟩ := (holds_iff ok).mp h
  have nd : (wv.map (·.1)).Nodup := by rw [wo.ky]; exact nA
  have Ap := sortS_perm (wv.map (·.1))
  have e : reachF (szL kv) = reachF kv := funext fun m => reach_szL ok m
  refine maj_pre (r := fallF wv) ?_ (fun a ha => ?_) (fun q hq => ?_) ?_ (fallF_fall wv) (by rw [e]; exact h1) (by rw [e]; exact h2)
  · rw [Ap.length_eq, wo.ky]; exact n12
  · exact wo.ge a (by rw [← wo.ky]; exact Ap.mem_iff.mp ha)
  · have := (szL_ok ok).rng q hq
    exact ⟨this.1, this.2.1⟩
  · have h3 := fallF_perm wv
    rw [← keys_at0 nd] at h3
    exact h3.trans (Ap.map _).symm
theorem dok_holds {kv : List (Int × Int)} {names : List Str} {wv : List (Str × Int)} {m : Nat} (h : DOk names kv wv m) (nA : names.Nodup) : holdsF kv wv = true := by
  have nd : (wv.map (·.1)).Nodup := by rw [h.ky]; exact nA
  have h3 := fallF_perm wv
  rw [← keys_at0 nd, h.ky] at h3
  obtain ⟨h1, h2⟩ := dlt_pre h.dl h3 (fallF_fall wv)
  exact (holds_iff h.ok).mpr ⟨h2, h1⟩
def sp_law (K : Fg) : Sp := fun vs H Q _ => ∃ (a : Addr) (ns : List Int), vs = [.ref a] ∧ SqL K H a (ns.map V.int) ∧ ns.length ≤ 63 ∧ H (tabP K "_law_is_sum") = some (.tbl #[]) ∧ a ≠ tabP K "_law_is_sum" ∧ ∀ H', Q (.bl true) H'
theorem len_law {K : Fg} {vs : List V} {H : Hp} {Q : VK} {E : XK} (h : sp_law K vs H Q E) : vs.length = ["_law_script"].length := by
  obtain ⟨a, ns, rfl, _⟩ := h
  rfl
theorem law_in {K : Fg} {H : Hp} (a : Addr) (ns : List Int) (hl : ns.length ≤ 63) (hS : SqL K H a (ns.map V.int)) (hT : ∀ x, x ∈ (["_law_is_sum"] : List Str) → H (tabP K x) = some (.tbl #[]) ∧ a ≠ tabP K x) : sp_law K [.ref a] H (fun v _ => v = .bl true) (fun _ _ _ => False) := ⟨a, ns, rfl, hS, hl, (hT "_law_is_sum" (by decide)).1, (hT "_law_is_sum" (by decide)).2, fun _ => rfl⟩
/-- law: the slots 0 _law_script, 1 _law_state, 2 _law_turn, 3 _law_names_here, 4 _law_lots, 5 _law_need, 6 _law_good, 7 _law_name, 8 _law_kept -/
abbrev n_law : List Str := ["_law_script", "_law_state", "_law_turn", "_law_names_here", "_law_lots", "_law_need", "_law_good", "_law_name", "_law_kept"]
def t_law (K : Fg) : TS := (tSeq (tAsg (tCall (sp__law_begun K) [] E0 (tCons (tVar 0) tNil)) (gName 1))
  (tSeq (tFor (iRng1 (tCons (tC (.int 3)) tNil)) (gName 2)
  (tSeq (tAsg (tCall (sp__law_names K) [] E0 (tCons (tVar 1) (tCons (tOp oAdd (tC (.int 2)) (tCall (sp__law_draw K) [] E0 (tCons (tVar 1) (tCons (tC (.int 11)) tNil)))) tNil))) (gName 3))
  (tSeq (tAsg (tCall (sp__law_dealt K) [] E0 (tCons (tVar 1) (tCons (tVar 3) tNil))) (gPair K 4 5))
  (tSeq (tAsg (tC (.bl true)) (gName 6))
  (tSeq (tIfS (tTest (tOp rEq (tCall (sp__law_draw K) [] E0 (tCons (tVar 1) (tCons (tC (.int 2)) tNil))) (tC (.int 0)))) (tSeq (tAsg (tSl (rSlL K) (tVar 3) tNoPart (tPart (tCall (sp__law_pick K) [] E0 (tCons (tVar 1) (tCons (tLst (tCons (tC (.int 8)) (tCons (tC (.int 8)) (tCons (tC (.int 12)) tNil)))) tNil))))) (gName 3))
  (tSeq (tAsg (tCall (sp__law_dealt K) [] E0 (tCons (tVar 1) (tCons (tVar 3) tNil))) (gPair K 4 5))
  (tSeq (tIfS (tTest (tOp rEq (tCall (sp__law_draw K) [] E0 (tCons (tVar 1) (tCons (tC (.int 3)) tNil))) (tC (.int 0)))) (tSeq (sDPut (tVar 4) (tCB (rLen K) (tCons (tVar 3) tNil)) (tOp oAdd (tDGet2 (tVar 4) (tCB (rLen K) (tCons (tVar 3) tNil)) (tC (.int 0))) (tC (.int 1))))
  (tAsg (tCall (sp__law_spread K) [] E0 (tCons (tVar 1) (tCons (tCB (rDictP K) (tCons (tLc (iList K (tVar 3)) (gName 7) tYes (tTup (tCons (tVar 7) (tCons (tOp oAdd (tDGet (tVar 5) (tVar 7)) (tC (.int 1))) tNil))) [7]) tNil)) tNil))) (gName 5))) (tAsg (tCall (sp__law_moved K) [] E0 (tCons (tVar 1) (tCons (tVar 5) tNil))) (gName 5)))
  (tAsg (tCall (sp__law_is_sum K) [] E0 (tCons (tVar 4) (tCons (tVar 5) tNil))) (gName 6))))) tNext)
  (tSeq (tAsg (tTup (tCons (tCB rDictC (tCons (tVar 4) tNil)) (tCons (tCB rDictC (tCons (tVar 5) tNil)) tNil))) (gName 8))
  (tSeq (tIfS (tOr (tTest (tOp rNe (tCall (sp_holds K) [] E0 (tCons (tVar 4) (tCons (tVar 5) tNil))) (tVar 6))) (tNot (tB (tCB (rIsi K) (tCons (tCallKw (sp_holds K) [1, 0] 2 E0 (tCons (tVar 5) (tCons (tVar 4) tNil))) (tCons (tC (.ty "bool")) tNil)))))) (tRet (tC (.bl false))) tNext)
  (tSeq (tIfS (tNot (tIfT (tB (tVar 6)) (tB (tCall (sp__law_heaps_right K) [] E0 (tCons (tVar 4) (tCons (tVar 5) tNil)))) (tB (tCall (sp__law_refused K) [] E0 (tCons (tVar 4) (tCons (tVar 5) tNil)))))) (tRet (tC (.bl false))) tNext)
  (tIfS (tTest (tOp (rNeTQ K) (tTup (tCons (tVar 4) (tCons (tVar 5) tNil))) (tVar 8))) (tRet (tC (.bl false))) tNext)))))))))
  (tRet (tChain (rEqT K false) (rEqT K false) (tCall (sp_heaps K) [] E0 (tCons tDNewK (tCons tDNewK tNil))) (tLst tNil) (tCall (sp_heaps K) [] E0 (tCons (tDisp (((tC (.int 5)), (tC (.int 0))) :: (((tC (.int 12)), (tC (.int 0))) :: []))) (tCons tDNewK tNil)))))))
section
variable {K : Fg} {W : Wd} {σ : SS} {te ti : TE}
theorem ex_slN {α : Type} [Py α] {ε : Ef} {xs : List α} {P : Int → Prop} (h : EvR ε K te σ W xs) (hi : EvX ε K ti σ W P) : EvX ε K (tSl (rSlL K) te tNoPart (tPart ti)) σ W (fun ys : List α => ∃ i, P i ∧ ys = cutL xs none (some i)) := fun W1 g1 Q k =>
  h W1 g1 _ fun v W2 g2 rx => hi W2 (g1.trans g2) _ fun w W4 g4 ⟨i, pi, ri⟩ => by
    obtain ⟨a, vs, e, s, r⟩ := rep_s g4 rx
    refine ⟨i, ri, a, vs, e, SqL.of (W4.sub.el s), fun p hp => k _ (W4.add p _) ((g2.trans g4).and (W4.grow_add hp)) ⟨_, ⟨i, pi, rfl⟩, p, _, rfl, upd_same, Reps.mono (exExt (W4.grow_add hp).b) ?_⟩⟩
    unfold cutV cutL
    rw [Reps.len r]
    exact Reps.take _ (Reps.drop _ r)
/-- what stays where a dict is laid down -/
theorem fix_on {l : Addr} {o : HO} (h : W.H l = some o) (n : W.B l = none) : On W (W.fix l o h) := ⟨ex_fix h n, fun a o _ h2 => h2⟩
theorem DMut.fixo {κ α : Type} [PyKey κ] [Py α] {d l : Addr} {kv : List (κ × α)} {o : HO} (m : DMut K W d kv) (ne : d ≠ l) (h : W.H l = some o) (n : W.B l = none) : DMut K (W.fix l o h) d kv := by
  obtain ⟨ks, e, r⟩ := m.ex
  exact ⟨(upd_ne ne).trans m.b, ks, e, KReps.mono (exExt (ex_fix h n)) r⟩
theorem TabAt.fixo {P l : Addr} {q : Str} {o : HO} (t : TabAt W P q) (ne : P ≠ l) (h : W.H l = some o) (n : W.B l = none) : TabAt (W.fix l o h) P q := by
  obtain ⟨ps, e, ok, all⟩ := t.ex
  exact ⟨(upd_ne ne).trans t.b, ps, e, ok, fun pos cv hc => by
    obtain ⟨c, e1, e2, e3⟩ := all pos cv hc
    exact ⟨c, e1, ex_fix h n _ _ e2, e3⟩⟩
/-- two dicts laid down -/
theorem lay2 {p c P l d : Addr} {q : Str} {kv : List (Int × Int)} {wv : List (Str × Int)} (st : St W p c) (t : TabAt W P q) (ml : DMut K W l kv) (md : DMut K W d wv) (ld : l ≠ d) :
    ∃ W' : Wd, W'.H = W.H ∧ On W W' ∧ St W' p c ∧ TabAt W' P q ∧ DictAt K W' (.ref l) ⟨kv⟩ ∧ DictAt K W' (.ref d) ⟨wv⟩ := by
  obtain ⟨a, m, cs, hp, hc, _⟩ := st.ex
  obtain ⟨ps, hP, _⟩ := t.ex
  obtain ⟨k1, e1, _⟩ := ml.ex
  obtain ⟨k2, e2, _⟩ := md.ex
  have pl : p ≠ l := fun z => by rw [z, e1] at hp; cases hp
  have pd : p ≠ d := fun z => by rw [z, e2] at hp; cases hp
  have cl : c ≠ l := fun z => by rw [z, e1] at hc; cases hc
  have cd : c ≠ d := fun z => by rw [z, e2] at hc; cases hc
  have Pl : P ≠ l := fun z => by rw [z, e1] at hP; cases hP
  have Pd : P ≠ d := fun z => by rw [z, e2] at hP; cases hP
  obtain ⟨o, ho, dl, _, _⟩ := ml.fix
  have md1 := md.fixo ld.symm ho ml.b
  have s1 : St (W.fix l o ho) p c := st.keep rfl rfl (upd_ne pl) (upd_ne cl)
  have t1 := t.fixo Pl ho ml.b
  obtain ⟨o2, ho2, dd, _, _⟩ := md1.fix
  exact ⟨(W.fix l o ho).fix d o2 ho2, rfl, (fix_on ho ml.b).trans (fix_on ho2 md1.b), s1.keep rfl rfl (upd_ne pd) (upd_ne cd), t1.fixo Pd ho2 md1.b, dl.on (fix_on ho2 md1.b), dd⟩
/-- one dict laid down -/
theorem lay1 {p c P d : Addr} {q : Str} {wv : List (Str × Int)} (st : St W p c) (t : TabAt W P q) (md : DMut K W d wv) :
    ∃ W' : Wd, W'.H = W.H ∧ On W W' ∧ St W' p c ∧ TabAt W' P q ∧ DictAt K W' (.ref d) ⟨wv⟩ ∧ (∀ {κ : Type} [PyKey κ] {l : Addr} {kv : List (κ × Int)}, DMut K W l kv → l ≠ d → DMut K W' l kv) ∧ ∀ W0 S, Md S W0 W → W0.H d = none → Md S W0 W' := by
  obtain ⟨a, m, cs, hp, hc, _⟩ := st.ex
  obtain ⟨ps, hP, _⟩ := t.ex
  obtain ⟨k2, e2, _⟩ := md.ex
  have pd : p ≠ d := fun z => by rw [z, e2] at hp; cases hp
  have cd : c ≠ d := fun z => by rw [z, e2] at hc; cases hc
  have Pd : P ≠ d := fun z => by rw [z, e2] at hP; cases hP
  obtain ⟨o, ho, dd, _, kf⟩ := md.fix
  exact ⟨W.fix d o ho, rfl, fix_on ho md.b, st.keep rfl rfl (upd_ne pd) (upd_ne cd), t.fixo Pd ho md.b, dd, fun m ne => m.fixo ne ho md.b, kf⟩
theorem eqa_dictA {κ α : Type} [DecidableEq κ] [PyKey κ] [DecidableEq α] [Datum α] [Py α] [PyD α] {n : Nat} {v u : V} {kv kv' : List (κ × α)} (m1 : DictAt K W v ⟨kv⟩) (m2 : DictAt K W u ⟨kv'⟩) (hd : Datum.depth α ≤ n) (same : v = u → deq kv kv' = true) : EqA K W.H (n + 2) v u (deq kv kv') := by
  obtain ⟨p, ks, rfl, _, e1, r1⟩ := m1
  obtain ⟨q, ls, rfl, _, e2, r2⟩ := m2
  refine .inr ⟨⟨p, q, rfl, rfl, .inr (.inr ⟨ks, ls, _, e1, e2, fun _ => hits_deq r2 W.sub hd r1, ?_⟩)⟩, fun e => same e⟩
  rw [KReps.len r1, KReps.len r2]
  rfl
theorem ev_holdsKw {i j : Nat} {v w : V} {kv : List (Int × Int)} {wv : List (Str × Int)} {ε : Ef} (h1 : σ[i]? = some (some v)) (h2 : σ[j]? = some (some w)) (dv : DictAt K W v ⟨kv⟩) (dw : DictAt K W w ⟨wv⟩) (ok : SzOk kv) (hl : wv.length ≤ 1000) :
    EvR ε K (tCallKw (sp_holds K) [1, 0] 2 E0 (tCons (tVar j) (tCons (tVar i) tNil))) σ W (holdsF kv wv) := fun W1 g1 Q k =>
  ⟨_, h2, _, h1, rfl, W1, v, w, kv, wv, rfl, rfl, dv.s g1, dw.s g1, ok, hl, fun W2 g2 => k _ W2 (Stp.and (.start g1.i) g2) rfl⟩
end
section
variable {K : Fg} {vs : List V} {H : Hp} {Q : VK} {E : XK}
theorem rd_law (h : sp_law K vs H Q E) : t_law K { nx := fun _ H' => Q .non H', rt := Q } (start n_law vs) H := by
  obtain ⟨a, ns, rfl, hS, hl, hT, ha, k⟩ := h
  let P := tabP K "_law_is_sum"
  let q := qLam "_law_is_sum"
  let W : Wd := ⟨fun b => if b = P then none else H b, H, fun b o e => by
    by_cases c : b = P
    · have e' : (if b = P then none else H b) = some o := e
      rw [if_pos c] at e'; cases e'
    · have e' : (if b = P then none else H b) = some o := e
      rw [if_neg c] at e'; exact .inl e'⟩
  have tW : TabAt W P q := ⟨if_pos rfl, #[], hT, True.intro, fun pos cv hc => by
    have z : codeAmong pos [] = some cv := hc
    simp [codeAmong] at z⟩
  have hB : W.B a = H a := if_neg ha
  have hSB : SqL K W.B a (ns.map V.int) := by
    rcases hS with (h | ⟨o, h⟩) | h
    · exact .inl (.inl (hB.trans h))
    · exact .inl (.inr ⟨o, hB.trans h⟩)
    · exact .inr h
  show t_law K _ [some (.ref a), none, none, none, none, none, none, none, none] W.H
  refine ⟨_, rfl, W, a, ns, rfl, rfl, hSB, hl, fun p c W1 g1 s1 hp0 hc0 => ?_⟩
  have pP : p ≠ P := fun e => by rw [e, show W.H P = some (.tbl #[]) from hT] at hp0; cases hp0
  have cP : c ≠ P := fun e => by rw [e, show W.H P = some (.tbl #[]) from hT] at hc0; cases hc0
  have Ppc : P ∉ [p, c] := by simp [pP.symm, cP.symm]
  let S : Option V → Option V → Option V → Option V → Option V → Option V → Option V → SS := fun v2 v3 v4 v5 v6 v7 v8 => [some (.ref a), some (.ref p), v2, v3, v4, v5, v6, v7, v8]
  show tSeq _ _ _ (S none none none none none none none) W1.H
  refine q_for (ε := pur) (K := K) (W := W1) (σ := S none none none none none none none) (xs := rng 0 3) (ei_rng1 (n := 3) ev_int (by decide) (by decide)) trivial fun W2 g2 =>
    ⟨fun t σ' W' => ∃ (v2 v3 v4 v5 v6 v7 v8 : Option V), σ' = S v2 v3 v4 v5 v6 v7 v8 ∧ On W2 W' ∧ St W' p c ∧ TabAt W' P q,
      ⟨none, none, none, none, none, none, none, rfl, .refl _, s1.g g2.pure, (tW.gr g1).gr g2.pure⟩, fun t σ' W' ⟨_, _, _, _, _, _, _, _, o, _⟩ => o, ?_, ?_⟩
  rotate_left
  · -- heaps({}, {}) == [] == heaps({5: 0, 12: 0}, {})
    rintro σ' W3 ⟨v2, v3, v4, v5, v6, v7, v8, rfl, o3, s3, t3⟩
    have empty : ∀ (sz : List (Int × Int)), SzOk sz → (∀ q ∈ sz, q.2 = 0) → holdsF sz [] = true ∧ Maj (sortS (([] : List (Str × Int)).map (·.1))) (at0 ([] : List (Str × Int))) (szL sz) ∧ (heapsF (szL sz) []).map rowV = [] := fun sz ok hz => by
      have r0 : ∀ m, reachF sz m = 0 := fun m => by
        unfold reachF
        have : sz.map (fun q => q.2 * (if m < q.1 then m else q.1)) = sz.map fun _ => (0 : Int) := List.map_congr_left fun q hq => by rw [hz q hq, Int.zero_mul]
        rw [this]
        clear this ok hz
        induction sz with
        | nil => rfl
        | cons q sz ih => rw [List.map_cons, List.sum_cons, ih]; rfl
      have f0 : fallF [] = [] := List.length_eq_zero_iff.mp (fallF_len [])
      have h1 : holdsF sz [] = true := (holds_iff ok).mpr ⟨by rw [r0, f0]; rfl, fun j hj => by
        rw [r0, f0, List.take_nil]
        exact Int.le_refl _⟩
      refine ⟨h1, maj_ok ok (names := []) ⟨rfl, fun a ha => by cases ha⟩ List.nodup_nil (by decide) h1, ?_⟩
      have : ∀ l : List (Int × Int), (∀ q ∈ l, q.2 = 0) → heapsF l [] = [] := by
        intro l
        induction l with
        | nil => intro _; rfl
        | cons q l ih =>
          intro h
          show (if 0 < q.2 then _ else heapsF l []) = []
          rw [if_neg (by rw [h q List.mem_cons_self]; decide)]
          exact ih fun x hx => h x (List.mem_cons_of_mem _ hx)
      rw [this (szL sz) fun q hq => hz q ((szL_perm ok).mem_iff.mp hq)]
      rfl
    have ok0 : SzOk [] := ⟨fun q hq => (by cases hq), List.nodup_nil⟩
    have ok1 : SzOk [(5, 0), (12, 0)] := by
      refine ⟨fun q hq => ?_, by decide⟩
      simp only [List.mem_cons, List.not_mem_nil, or_false] at hq
      rcases hq with rfl | rfl <;> exact ⟨by decide, by decide, by decide⟩
    obtain ⟨a1, a2, a3⟩ := empty [] ok0 fun q hq => by cases hq
    obtain ⟨b1, b2, b3⟩ := empty [(5, 0), (12, 0)] ok1 fun q hq => by
      simp only [List.mem_cons, List.not_mem_nil, or_false] at hq
      rcases hq with rfl | rfl <;> rfl
    have call : ∀ (ta : TE) (sz : List (Int × Int)), SzOk sz → holdsF sz [] = true → Maj (sortS (([] : List (Str × Int)).map (·.1))) (at0 ([] : List (Str × Int))) (szL sz) → (heapsF (szL sz) []).map rowV = [] → EvD pur K ta (S v2 v3 v4 v5 v6 v7 v8) W3 (⟨sz⟩ : Dict Int Int) →
        EvR pur K (tCall (sp_heaps K) [] E0 (tCons ta (tCons tDNewK tNil))) (S v2 v3 v4 v5 v6 v7 v8) W3 ([] : List (Tup Str × Int)) := fun ta sz ok h1 h2 h3 hD =>
      EvP.toR (ev_callP2 (P := fun v W => DictAt K W v (⟨sz⟩ : Dict Int Int)) (P2 := fun v W => DictAt K W v (⟨[]⟩ : Dict Str Int)) hD (ed_new (ε := pur) (K := K) (κ := Str) (α := Int)) (fun v W W' g d => d.s g) fun v v2 W1 g1 d1 d2 Q k => .inl ⟨W1, v, v2, sz, [], rfl, rfl, d1, d2, ok, List.nodup_nil, by decide, h1, h2, fun z W7 g7 r => k z W7 (.of g7) (by rw [h3] at r; exact r)⟩)
    have e1 := call tDNewK [] ok0 a1 a2 a3 (ed_new (ε := pur) (K := K) (κ := Int) (α := Int))
    have eD : EvD pur K (tDisp (((tC (.int 5)), (tC (.int 0))) :: (((tC (.int 12)), (tC (.int 0))) :: []))) (S v2 v3 v4 v5 v6 v7 v8) W3 (⟨[(5, 0), (12, 0)]⟩ : Dict Int Int) := fun W4 g4 Q k pp hpp => by
      refine ⟨upd_same, [(.inl 5, .int 0), (.inl 12, .int 0)], rfl, by decide, ?_⟩
      rw [upd_upd]
      exact k _ (W4.add pp _) (g4.rf.and (W4.grow_add hpp)) ⟨pp, _, rfl, upd_same, upd_same, .cons ⟨rfl, rfl⟩ (.cons ⟨rfl, rfl⟩ .nil)⟩
    have e2 := call _ [(5, 0), (12, 0)] ok1 b1 b2 b3 eD
    refine s_ret (ε := pur) (K := K) (x := true) (EvR.is (ev_chain e1 (ev_lst ea_nil (by decide)) e2 (ro_eqT (by decide)) (ro_eqT (by decide))) (by decide)) trivial fun z W4 g4 rz => ?_
    rw [show z = V.bl true from rz]
    exact k _
  rintro t tv v σ' W3 W4 ht htv ⟨v2, v3, v4, v5, v6, v7, v8, rfl, o3, s3, t3⟩ g4 rv
  have s4 := s3.g g4
  have t4 := t3.gr g4
  have o4 := o3.trans g4.on
  show tSeq _ _ _ (S (some v) v3 v4 v5 v6 v7 v8) W4.H
  refine ⟨_, rfl, ex_addD (m := 2) (ex_draw (K := K) (p := p) (c := c) (i := 1) (n := 11) (σ := S (some v) v3 v4 v5 v6 v7 v8) rfl ev_int (by decide) (by decide)) W4 (.start s4) _ fun u5 W5 g5 ⟨m, ⟨r, hr, em⟩, ru5⟩ => ⟨W5, p, c, m, rfl, by rw [show u5 = V.int m from ru5]; rfl, g5.i, by omega, by omega, fun vn names W6 m6 s6 rn nA wd nl => ?_⟩⟩
  have n1 : 1 ≤ names.length := by omega
  have n12 : names.length ≤ 12 := by omega
  have t6 : TabAt W6 P q := (t4.g g5.md Ppc).g m6 Ppc
  have o6 : On W2 W6 := (o4.trans g5.on).trans m6.on
  -- behind the drawing
  have rest : ∀ (D : L2.Ends) (W8 : Wd) (names : List Str) (l d : Addr) (kv : List (Int × Int)) (wv : List (Str × Int)) (b : Bool) (v3 v7 v8 : Option V), b = holdsF kv wv → (∀ (W9 : Wd) (v3 v4 v5 v6 v7 v8 : Option V), On W8 W9 → St W9 p c → TabAt W9 P q → D.nx (S (some v) v3 v4 v5 v6 v7 v8) W9.H) →
      St W8 p c → TabAt W8 P q → DictAt K W8 (.ref l) ⟨kv⟩ → DictAt K W8 (.ref d) ⟨wv⟩ → SzOk kv → WOk names wv → names.Nodup → names.length ≤ 12 → (∀ n ∈ names, IsWord n) → (∀ q ∈ kv, q.2 ≤ 100000000000) →
      (tSeq (tAsg (tTup (tCons (tCB rDictC (tCons (tVar 4) tNil)) (tCons (tCB rDictC (tCons (tVar 5) tNil)) tNil))) (gName 8))
  (tSeq (tIfS (tOr (tTest (tOp rNe (tCall (sp_holds K) [] E0 (tCons (tVar 4) (tCons (tVar 5) tNil))) (tVar 6))) (tNot (tB (tCB (rIsi K) (tCons (tCallKw (sp_holds K) [1, 0] 2 E0 (tCons (tVar 5) (tCons (tVar 4) tNil))) (tCons (tC (.ty "bool")) tNil)))))) (tRet (tC (.bl false))) tNext)
  (tSeq (tIfS (tNot (tIfT (tB (tVar 6)) (tB (tCall (sp__law_heaps_right K) [] E0 (tCons (tVar 4) (tCons (tVar 5) tNil)))) (tB (tCall (sp__law_refused K) [] E0 (tCons (tVar 4) (tCons (tVar 5) tNil)))))) (tRet (tC (.bl false))) tNext)
  (tIfS (tTest (tOp (rNeTQ K) (tTup (tCons (tVar 4) (tCons (tVar 5) tNil))) (tVar 8))) (tRet (tC (.bl false))) tNext)))) D (S (some v) v3 (some (.ref l)) (some (.ref d)) (some (.bl b)) v7 v8) W8.H := fun D W8 names l d kv wv b v3 v7 v8 hb kD s8 t8 dl8 dd8 ok wo nA n12 wd bd => by
    subst hb
    have wl : wv.length = names.length := by rw [← wo.ky, List.length_map]
    refine ed_copy (ε := pur) (K := K) (d := (⟨kv⟩ : Dict Int Int)) (σ := S (some v) v3 (some (.ref l)) (some (.ref d)) (some (.bl (holdsF kv wv))) v7 v8) (ev_dvar (i := 4) rfl dl8).rep W8 (.start trivial) _ fun u1 W9 g9 du1 => ed_copy (ε := pur) (K := K) (d := (⟨wv⟩ : Dict Str Int)) (σ := S (some v) v3 (some (.ref l)) (some (.ref d)) (some (.bl (holdsF kv wv))) v7 v8) (ev_dvar (i := 5) rfl (dd8.s g9)).rep W9 (.start trivial) _ fun u2 W10 g10 du2 => ⟨Evl.sz_of (by show 2 ≤ 100000; decide), fun T hT => ?_⟩
    let W11 := W10.add T (.tup [u1, u2])
    have g11 : Grow W10 W11 := W10.grow_add hT
    have G11 : Grow W8 W11 := (g9.pure.trans g10.pure).trans g11
    have dl11 := dl8.g G11
    have dd11 := dd8.g G11
    have du1' : DictAt K W11 u1 ⟨kv⟩ := (du1.s g10).g g11
    have du2' : DictAt K W11 u2 ⟨wv⟩ := du2.g g11
    show tSeq _ _ _ (S (some v) v3 (some (.ref l)) (some (.ref d)) (some (.bl (holdsF kv wv))) v7 (some (.ref T))) W11.H
    refine q_when (ε := pur) (W := W11) (b := false) (EvT.is (et_or (a := false) (b := false) (EvT.is (et_test (ev_op (K := K) (ev_holds (i := 4) (j := 5) rfl rfl dl11 dd11 ok (by omega)) (ev_var (i := 6) (x := holdsF kv wv) rfl rfl) ro_neB)) (by simp)) fun _ => EvT.is (et_not (et_B (ev_cb2 (ev_holdsKw (i := 4) (j := 5) rfl rfl dl11 dd11 ok (by omega)) ev_raw (rc_isi (b := true) ty_bl (by decide +kernel))))) rfl) rfl) trivial (fun z => by cases z) fun _ W12 g12 => ?_
    have dl12 := dl11.s g12
    have dd12 := dd11.s g12
    have right : EvT pur (tIfT (tB (tVar 6)) (tB (tCall (sp__law_heaps_right K) [] E0 (tCons (tVar 4) (tCons (tVar 5) tNil)))) (tB (tCall (sp__law_refused K) [] E0 (tCons (tVar 4) (tCons (tVar 5) tNil))))) (S (some v) v3 (some (.ref l)) (some (.ref d)) (some (.bl (holdsF kv wv))) v7 (some (.ref T))) W12 true := by
      refine EvT.is (et_ifT (b := holdsF kv wv) (x := true) (y := true) (et_B (K := K) (ev_var (i := 6) (x := holdsF kv wv) rfl rfl)) (fun hb => et_B (K := K) fun W13 g13 Q k => ⟨_, rfl, _, rfl, W13, .ref l, .ref d, kv, wv, rfl, rfl, dl12.s g13, dd12.s g13, ok, by rw [wo.ky]; exact nA, by omega, by rw [wo.ky]; exact wd, bd, hb, maj_ok ok wo nA n12 hb, fun W14 g14 => k _ W14 (.of g14) rfl⟩) (fun hb => et_B (K := K) fun W13 g13 Q k => ⟨_, rfl, _, rfl, W13, .ref l, .ref d, kv, wv, rfl, rfl, dl12.s g13, dd12.s g13, ok, by omega, hb, fun W14 g14 => k _ W14 (.of g14) rfl⟩)) (by split <;> rfl)
    refine q_when (ε := pur) (W := W12) (b := false) (EvT.is (et_not right) rfl) trivial (fun z => by cases z) fun _ W13 g13 => ?_
    have G13 : Grow W11 W13 := g12.pure.trans g13.pure
    have eN : EvT pur (tTest (tOp (rNeTQ K) (tTup (tCons (tVar 4) (tCons (tVar 5) tNil))) (tVar 8))) (S (some v) v3 (some (.ref l)) (some (.ref d)) (some (.bl (holdsF kv wv))) v7 (some (.ref T))) W13 false := fun W14 g14 Q k => ⟨_, rfl, _, rfl, Evl.sz_of (by show 2 ≤ 100000; decide), fun T2 hT2 => by
      let W15 := W14.add T2 (.tup [.ref l, .ref d])
      have g15 : Grow W14 W15 := W14.grow_add hT2
      have G15 : Grow W11 W15 := (G13.trans g14.pure).trans g15
      have hTT : W15.H T = some (.tup [u1, u2]) := G15.h _ _ upd_same
      have nk : (kv.map (·.1)).Nodup := ok.nd
      have nw : (wv.map (·.1)).Nodup := by rw [wo.ky]; exact nA
      have d1 : deq kv kv = true := deq_self nk nk fun _ => rfl
      have d2 : deq wv wv = true := deq_self nw nw fun _ => rfl
      have q1 := eqa_dictA (n := 6) (dl11.g G15) (du1'.g G15) (by decide) fun _ => d1
      have q2 := eqa_dictA (n := 6) (dd11.g G15) (du2'.g G15) (by decide) fun _ => d2
      rw [d1] at q1
      rw [d2] at q2
      exact ⟨_, rfl, 8, T2, T, _, _, true, by decide, rfl, rfl, SqT.of upd_same, SqT.of hTT, ⟨true, true, q1, ⟨true, true, q2, rfl, rfl⟩, rfl⟩, _, rfl, k W15 (.of g15)⟩⟩
    refine s_when (ε := pur) (W := W13) (b := false) eN trivial (fun z => by cases z) fun _ W14 g14 => ?_
    have G14 : Grow W8 W14 := (G11.trans G13).trans g14.pure
    exact kD W14 _ _ _ _ _ _ G14.on (s8.g G14) (t8.gr G14)
  -- sizes and what is wanted, drawn
  have dealt : ∀ {D : L2.Ends} {tz : TS} (W7 : Wd) (vn : V) (names : List Str) (v4 v5 v6 v7 v8 : Option V), St W7 p c → TabAt W7 P q → rep K W7.B vn names → names.Nodup → 1 ≤ names.length → names.length ≤ 12 →
      (∀ (l d : Addr) (kv : List (Int × Int)) (wv : List (Str × Int)) (W8 : Wd), Md [p, c] W7 W8 → St W8 p c → TabAt W8 P q → l ≠ d → DMut K W8 l kv → DMut K W8 d wv → DOk names kv wv 16 → tz D (S (some v) (some vn) (some (.ref l)) (some (.ref d)) v6 v7 v8) W8.H) →
      tSeq (tAsg (tCall (sp__law_dealt K) [] E0 (tCons (tVar 1) (tCons (tVar 3) tNil))) (gPair K 4 5)) tz D (S (some v) (some vn) v4 v5 v6 v7 v8) W7.H := fun {D tz} W7 vn names v4 v5 v6 v7 v8 s7 t7 r7 nA n1 n12 kk =>
    ⟨_, rfl, _, rfl, W7, p, c, vn, names, rfl, rfl, s7, r7, nA, n1, n12, fun T l d kv wv W8 M8 s8 fl fd ld ml md dok hT => ⟨T, [.ref l, .ref d], rfl, SqT.of hT, rfl, _, _, rfl, _, _, rfl, rfl, kk l d kv wv W8 M8 s8 (t7.g M8 Ppc) ld ml md dok⟩⟩
  have half : ∀ (W0 : Wd) (σ : SS) (n : Int), σ[1]? = some (some (.ref p)) → 0 < n → n < 1073741824 → EvTP (drw p c) (tTest (tOp rEq (tCall (sp__law_draw K) [] E0 (tCons (tVar 1) (tCons (tC (.int n)) tNil))) (tC (.int 0)))) σ W0 (fun _ => True) := fun W0 σ n h1 n0 n1 =>
    etp_x (P := fun _ : Bool => True) (ex_op (K := K) (P := fun _ : Int => True) (R := fun _ : Int => True) ((ex_draw (K := K) (i := 1) (n := n) h1 ev_int n0 n1).imp fun _ _ => trivial) (ex_of ev_int trivial) fun x y _ _ => ⟨decide (x = y), trivial, ro_eqI⟩) fun _ _ => trivial
  show tSeq _ _ _ (S (some v) (some vn) v4 v5 v6 v7 v8) W6.H
  refine dealt W6 vn names v4 v5 v6 v7 v8 s6 t6 rn nA n1 n12 fun l d kv wv W7 M7 s7 t7 ld ml md dok => ?_
  have rn7 := rep_g M7 rn
  have o7 : On W2 W7 := o6.trans M7.on
  refine q_asg (ε := pur) (K := K) (x := true) ev_bl trivial fun vg W8 g8 rg => ?_
  rw [show vg = V.bl true from rg]
  have s8 := s7.g g8.pure
  have t8 := t7.gr g8.pure
  have ml8 := ml.gr g8.pure
  have md8 := md.gr g8.pure
  have rn8 := rep_s g8 rn7
  have o8 := o7.trans g8.on
  show tSeq _ _ _ (S (some v) (some vn) (some (.ref l)) (some (.ref d)) (some (.bl true)) v7 v8) W8.H
  have sz : ∀ {a : Addr} {κ : Type} [PyKey κ] {kv : List (κ × Int)} {W' : Wd}, St W' p c → DMut K W' a kv → a ∉ (drw p c).S := fun {a κ _ kv W'} st m => by
    obtain ⟨_, _, _, hp, hc, _⟩ := st.ex
    obtain ⟨k2, e2, _⟩ := m.ex
    have pd : a ≠ p := fun z => by rw [← z, e2] at hp; cases hp
    have cd : a ≠ c := fun z => by rw [← z, e2] at hc; cases hc
    simp [drw, pd, cd]
  have b16 : ∀ {kv : List (Int × Int)}, (∀ q ∈ kv, q.2 ≤ 100000000 * ((16 : Nat) : Int)) → ∀ q ∈ kv, q.2 ≤ 100000000000 := fun h q hq => by have := h q hq; omega
  refine q_whenP (ε := drw p c) (W := W8) (σ := S (some v) (some vn) (some (.ref l)) (some (.ref d)) (some (.bl true)) v7 v8) (half W8 _ 2 rfl (by decide) (by decide)) s8 (fun W9 g9 _ => ?_) (fun W9 g9 _ => ?_)
  rotate_left
  · -- as drawn
    have s9 : St W9 p c := g9.i
    have t9 := t8.g g9.md Ppc
    have ml9 := ml8.g g9.md (sz s8 ml8)
    have md9 := md8.g g9.md (sz s8 md8)
    obtain ⟨W10, e10, o10, s10, t10, dl10, dd10⟩ := lay2 s9 t9 ml9 md9 ld
    have hf := dok_holds dok nA
    rw [← e10]
    exact rest _ W10 names l d kv wv true (some vn) v7 v8 hf.symm (fun W11 u3 u4 u5 u6 u7 u8 o11 s11 t11 => ⟨W11, rfl, some v, u3, u4, u5, u6, u7, u8, rfl, ((o8.trans g9.on).trans o10).trans o11, s11, t11⟩) s10 t10 dl10 dd10 dok.ok ⟨dok.ky, dok.ge⟩ nA n12 wd (b16 dok.bd)
  -- changed
  have s9 : St W9 p c := g9.i
  have t9 := t8.g g9.md Ppc
  have rn9 := rep_s g9 rn8
  have o9 := o8.trans g9.on
  refine q_asgP (ε := drw p c) (W := W9) (σ := S (some v) (some vn) (some (.ref l)) (some (.ref d)) (some (.bl true)) v7 v8) (ex_slN (K := K) (P := fun x : Int => x = 8 ∨ x = 12) (ev_var (i := 3) rfl rn9) (ex_pick (α := Int) (i := 1) (R := fun xs : List Int => xs = [8, 8, 12]) rfl (ex_of (ev_lst (ea_cons ev_int (ea_cons ev_int (ea_cons ev_int ea_nil))) (by show 3 ≤ 100000; decide)) rfl) (fun xs e => by
    subst e
    refine ⟨by simp, by show 3 < 100000; decide, fun x hx => ?_⟩
    simp only [List.mem_cons, List.not_mem_nil, or_false] at hx
    omega))) s9 fun vm W10 g10 ⟨ys, ⟨i, hi, ey⟩, rm⟩ => ?_
  obtain ⟨n, rfl⟩ : ∃ n : Nat, i = n := ⟨i.toNat, by omega⟩
  rw [cut_toN] at ey
  have ynA : ys.Nodup := by rw [ey]; exact (List.take_sublist _ _).nodup nA
  have yl1 : 1 ≤ ys.length := by rw [ey, List.length_take]; omega
  have yl2 : ys.length ≤ 12 := by rw [ey, List.length_take]; omega
  have ywd : ∀ s ∈ ys, IsWord s := fun s hs => wd s (by rw [ey] at hs; exact List.mem_of_mem_take hs)
  have s10 : St W10 p c := g10.i
  have t10 := t9.g g10.md Ppc
  have o10 := o9.trans g10.on
  show tSeq _ _ _ (S (some v) (some vm) (some (.ref l)) (some (.ref d)) (some (.bl true)) v7 v8) W10.H
  refine dealt W10 vm ys _ _ _ v7 v8 s10 t10 rm ynA yl1 yl2 fun l d kv wv W11 M11 s11 t11 ld ml md dok => ?_
  have rm11 := rep_g M11 rm
  have o11 : On W2 W11 := o10.trans M11.on
  have wl : wv.length = ys.length := by rw [← dok.ky, List.length_map]
  have kl := dok.ok.len
  -- the two ways meet
  have join : ∀ (D : L2.Ends) (W12 : Wd) (l d : Addr) (kv : List (Int × Int)) (wv : List (Str × Int)) (v7 : Option V), (∀ (W9 : Wd) (v3 v4 v5 v6 v7 v8 : Option V), On W12 W9 → St W9 p c → TabAt W9 P q → D.nx (S (some v) v3 v4 v5 v6 v7 v8) W9.H) → St W12 p c → TabAt W12 P q → l ≠ d → DMut K W12 l kv → DMut K W12 d wv → SzOk kv → WOk ys wv → (∀ q ∈ kv, q.2 ≤ 100000000000) →
      tAsg (tCall (sp__law_is_sum K) [] E0 (tCons (tVar 4) (tCons (tVar 5) tNil))) (gName 6) { D with nx := (tSeq (tAsg (tTup (tCons (tCB rDictC (tCons (tVar 4) tNil)) (tCons (tCB rDictC (tCons (tVar 5) tNil)) tNil))) (gName 8))
  (tSeq (tIfS (tOr (tTest (tOp rNe (tCall (sp_holds K) [] E0 (tCons (tVar 4) (tCons (tVar 5) tNil))) (tVar 6))) (tNot (tB (tCB (rIsi K) (tCons (tCallKw (sp_holds K) [1, 0] 2 E0 (tCons (tVar 5) (tCons (tVar 4) tNil))) (tCons (tC (.ty "bool")) tNil)))))) (tRet (tC (.bl false))) tNext)
  (tSeq (tIfS (tNot (tIfT (tB (tVar 6)) (tB (tCall (sp__law_heaps_right K) [] E0 (tCons (tVar 4) (tCons (tVar 5) tNil)))) (tB (tCall (sp__law_refused K) [] E0 (tCons (tVar 4) (tCons (tVar 5) tNil)))))) (tRet (tC (.bl false))) tNext)
  (tIfS (tTest (tOp (rNeTQ K) (tTup (tCons (tVar 4) (tCons (tVar 5) tNil))) (tVar 8))) (tRet (tC (.bl false))) tNext)))) D } (S (some v) (some vm) (some (.ref l)) (some (.ref d)) (some (.bl true)) v7 v8) W12.H := fun D W12 l d kv wv v7 kD s12 t12 ld ml md ok wo bd => by
    obtain ⟨W13, e13, o13, s13, t13, dl13, dd13⟩ := lay2 s12 t12 ml md ld
    refine ⟨_, rfl, _, rfl, W13, .ref l, .ref d, kv, ys, wv, e13, rfl, t13, dl13, dd13, ok, wo, ynA, yl2, fun W14 M14 t14 => ?_⟩
    exact rest D W14 ys l d kv wv _ (some vm) v7 v8 rfl (fun W15 u3 u4 u5 u6 u7 u8 o15 s15 t15 => kD W15 u3 u4 u5 u6 u7 u8 ((o13.trans M14.on).trans o15) s15 t15) (s13.off M14 (by simp; exact pP) (by simp; exact cP)) t14 (dl13.g M14) (dd13.g M14) ok wo ynA yl2 ywd bd
  show tSeq _ _ _ (S (some v) (some vm) (some (.ref l)) (some (.ref d)) (some (.bl true)) v7 v8) W11.H
  refine q_ifP (ε := drw p c) (W := W11) (σ := S (some v) (some vm) (some (.ref l)) (some (.ref d)) (some (.bl true)) v7 v8) (half W11 _ 3 rfl (by decide) (by decide)) s11 (fun W12 g12 _ => ?_) (fun W12 g12 _ => ?_)
  · have s12 : St W12 p c := g12.i
    have t12 := t11.g g12.md Ppc
    have ml12 := ml.g g12.md (sz s11 ml)
    have md12 := md.g g12.md (sz s11 md)
    have rm12 := rep_s g12 rm11
    have lpc := sz s12 ml12
    have dpc := sz s12 md12
    have lP : P ∉ [l] := by
      obtain ⟨ps, hP, _⟩ := t12.ex
      obtain ⟨k2, e2, _⟩ := ml12.ex
      simp
      exact fun z => by rw [z, e2] at hP; cases hP
    have eK : ∀ (W' : Wd), rep K W'.B vm ys → EvP pur (tCB (rLen K) (tCons (tVar 3) tNil)) (S (some v) (some vm) (some (.ref l)) (some (.ref d)) (some (.bl true)) v7 v8) W' (fun u _ => u = kV (PyKey.key ((ys.length : Nat) : Int))) := fun W' r => ek_int (K := K) (ev_cb1 (ev_var (i := 3) rfl r) rc_len)
    refine q_dputE (K := K) (W := W12) (σ := S (some v) (some vm) (some (.ref l)) (some (.ref d)) (some (.bl true)) v7 v8) (k := ((ys.length : Nat) : Int)) (x := at0 kv ((ys.length : Nat) : Int) + 1) (ev_rvar (i := 4) rfl) ml12 (ev_op (K := K) (ev_dget2E (ev_rvar (i := 4) rfl) ml12.pur (eK W12 rm12) ev_int) ev_int (ro_I0 (g := fun i j => i + j))) (eK W12 rm12) (by omega) fun W13 M13 o13 m13 => ?_
    have s13 : St W13 p c := s12.off M13 (by simp [drw] at lpc; simp; exact fun z => lpc.1 z.symm) (by simp [drw] at lpc; simp; exact fun z => lpc.2 z.symm)
    have t13 := t12.g M13 lP
    have md13 := md12.g M13 (by simp; exact ld.symm)
    have rm13 := rep_on o13 rm12
    have ok13 : SzOk (kput kv ((ys.length : Nat) : Int) (at0 kv ((ys.length : Nat) : Int) + 1)) := dok.ok.put (by omega) (by omega) (by have := dok.ok.at0 ((ys.length : Nat) : Int); omega)
    have bd13 : ∀ q ∈ kput kv ((ys.length : Nat) : Int) (at0 kv ((ys.length : Nat) : Int) + 1), q.2 ≤ 100000000000 := fun q hq => by
      rcases kput_mem hq with e | e
      · exact b16 dok.bd q e
      · rw [e]
        have := at0_bd dok.bd (by omega) ((ys.length : Nat) : Int)
        show at0 kv _ + 1 ≤ _
        omega
    show tAsg _ _ _ (S (some v) (some vm) (some (.ref l)) (some (.ref d)) (some (.bl true)) v7 v8) W13.H
    have nd1 : ((ys.map fun n => (n, at0 wv n + 1)).map (·.1)).Nodup := by rw [List.map_map]; exact (List.map_id ys).symm ▸ ynA
    refine ⟨_, rfl, em_dictP (ε := pur) (K := K) (κ := Str) (α := Int) (xs := ys.map fun n => (n, at0 wv n + 1)) (σ := S (some v) (some vm) (some (.ref l)) (some (.ref d)) (some (.bl true)) v7 v8) (EvN.toR (en_lcN (K := K) (xs := ys) (f := fun n => (n, at0 wv n + 1)) (ei_list (ev_var (i := 3) rfl rm13)).i (fun x w W' hx g r => ev_pair (ev_var (i := 7) rfl r) (ev_op (K := K) (ev_dgetE (ev_rvar (i := 5) rfl) (md13.gr g.pure).pur (ek_str (K := K) (ev_var (i := 7) rfl r)) (klook_at0 (by rw [dok.ky]; exact hx))) ev_int (ro_I0 (g := fun i j => i + j)))) (by omega))) W13 (.start trivial) _ fun p1 W14 g14 f14 m14 => ?_⟩
    rw [kfill_id nd1] at m14
    obtain ⟨W15, e15, o15, s15, t15, d15, mk15, kf15⟩ := lay1 (s13.g g14.pure) (t13.gr g14.pure) m14
    have l14 := m13.gr g14.pure
    have lp1 : l ≠ p1 := fun z => m13.isn (by rw [z]; exact f14)
    have l15 := mk15 l14 lp1
    have w1 : WOk ys (ys.map fun n => (n, at0 wv n + 1)) ∧ ∀ a ∈ ys, 1 ≤ at0 (ys.map fun n => (n, at0 wv n + 1)) a := by
      have key : (ys.map fun n => (n, at0 wv n + 1)).map (·.1) = ys := by rw [List.map_map]; exact List.map_id ys
      have val : ∀ a ∈ ys, 1 ≤ at0 (ys.map fun n => (n, at0 wv n + 1)) a := fun a ha => by
        have : (a, at0 wv a + 1) ∈ ys.map fun n => (n, at0 wv n + 1) := List.mem_map.mpr ⟨a, ha, rfl⟩
        have h := at0_of_mem nd1 this
        rw [show at0 (ys.map fun n => (n, at0 wv n + 1)) a = at0 wv a + 1 from h]
        have := dok.ge a ha
        omega
      exact ⟨⟨key, fun a ha => by have := val a ha; omega⟩, val⟩
    refine ⟨W15, p, c, .ref p1, ys, _, e15, rfl, s15, d15, w1.1, w1.2, ynA, yl1, yl2, fun d' wv' W16 M16 s16 f16 m16 w16 => ?_⟩
    have l16 := l15.g M16 (sz s15 l15)
    have ld' : l ≠ d' := fun z => l15.isn (by rw [z]; exact f16)
    exact join _ W16 l d' _ wv' v7 (fun W17 u3 u4 u5 u6 u7 u8 o17 s17 t17 => ⟨W17, rfl, some v, u3, u4, u5, u6, u7, u8, rfl, (((((o11.trans g12.on).trans o13).trans g14.on).trans o15).trans M16.on).trans o17, s17, t17⟩) s16 (t15.g M16 Ppc) ld' l16 m16 ok13 w16 bd13
  · have s12 : St W12 p c := g12.i
    have t12 := t11.g g12.md Ppc
    have ml12 := ml.g g12.md (sz s11 ml)
    have md12 := md.g g12.md (sz s11 md)
    obtain ⟨W13, e13, o13, s13, t13, d13, mk13, _⟩ := lay1 s12 t12 md12
    have l13 := mk13 ml12 ld
    show tAsg _ _ _ (S (some v) (some vm) (some (.ref l)) (some (.ref d)) (some (.bl true)) v7 v8) W12.H
    refine ⟨_, rfl, _, rfl, W13, p, c, .ref d, ys, wv, e13, rfl, s13, d13, ⟨dok.ky, dok.ge⟩, ynA, yl1, yl2, fun d' wv' W16 M16 s16 f16 m16 w16 => ?_⟩
    have l16 := l13.g M16 (sz s13 l13)
    have ld' : l ≠ d' := fun z => l13.isn (by rw [z]; exact f16)
    exact join _ W16 l d' _ wv' v7 (fun W17 u3 u4 u5 u6 u7 u8 o17 s17 t17 => ⟨W17, rfl, some v, u3, u4, u5, u6, u7, u8, rfl, (((o11.trans g12.on).trans o13).trans M16.on).trans o17, s17, t17⟩) s16 (t13.g M16 Ppc) ld' l16 m16 dok.ok w16 (b16 dok.bd)
end
end B
namespace B
open PySem L2 PyProof.Rows PySem.Spec
open Evl (Ex)
def relS (scope sc : Scope) : Scope := { scope with names := scope.names.map fun (n, k) => if (k == .free && sc.kind == .function && sc.names.lookup n == some .cell) then (n, .cell) else (n, k) }
theorem blkOk_in {X : Cx} {N : List Str} {scO sc scope : Scope} {own : List (Str × Nat)} {s : Shared} {H : Hp} {C : Addr} {cl : List (Str × Addr)} {fp : List Addr} (hN : X.N = N) (hsc : X.env.scope = sc) (h : blkC N (relS scO sc) scope own = true) : BlkOk (X.blk s H scO (compEnvC scO cl C X.env) fp).N (X.blk s H scO (compEnvC scO cl C X.env) fp).env.scope scope own := by
  subst hN hsc
  exact blkOk_by h
def topS (i : Nat) : Stmt := PySem.Challenge.pw_bygone_k22_whole_heaps_laid.main.body.getD i (.Pass ⟨0, 0, 0, 0⟩)
/-! reach -/
abbrev s_reach : Stmt := topS 6
theorem sc_reach : FnScope n_reach ["sizes", "many"] (defScope s_reach) := ⟨rfl, rfl, rfl, by decide +kernel, rfl, by decide +kernel, by decide +kernel⟩
/-! holds -/
abbrev s_holds : Stmt := topS 7
theorem sc_holds : FnScope n_holds ["sizes", "wanted"] (defScope s_holds) := ⟨rfl, rfl, rfl, by decide +kernel, rfl, by decide +kernel, by decide +kernel⟩
/-! above -/
abbrev s_above : Stmt := topS 8
theorem sc_above : FnScope n_above ["left", "level", "times"] (defScope s_above) := ⟨rfl, rfl, rfl, by decide +kernel, rfl, by decide +kernel, by decide +kernel⟩
/-! share -/
abbrev s_share : Stmt := topS 9
theorem sc_share : FnScope n_share ["left", "size", "times"] (defScope s_share) := ⟨rfl, rfl, rfl, by decide +kernel, rfl, by decide +kernel, by decide +kernel⟩
/-! laid -/
abbrev s_laid : Stmt := topS 10
theorem sc_laid : FnScope n_laid ["taken", "size", "times"] (defScope s_laid) := ⟨rfl, rfl, rfl, by decide +kernel, rfl, by decide +kernel, by decide +kernel⟩
/-! heaps -/
abbrev s_heaps : Stmt := topS 11
theorem sc_heaps : FnScope n_heaps ["sizes", "wanted"] (defScope s_heaps) := ⟨rfl, rfl, rfl, by decide +kernel, rfl, by decide +kernel, by decide +kernel⟩
/-! _law_begun -/
abbrev s__law_begun : Stmt := topS 13
theorem sc__law_begun : FnScope n__law_begun ["_law_script"] (defScope s__law_begun) := ⟨rfl, rfl, rfl, by decide +kernel, rfl, by decide +kernel, by decide +kernel⟩
/-! _law_draw -/
abbrev s__law_draw : Stmt := topS 14
theorem sc__law_draw : FnScope n__law_draw ["_law_state", "_law_many"] (defScope s__law_draw) := ⟨rfl, rfl, rfl, by decide +kernel, rfl, by decide +kernel, by decide +kernel⟩
/-! _law_pick -/
abbrev s__law_pick : Stmt := topS 15
theorem sc__law_pick : FnScope n__law_pick ["_law_state", "_law_some"] (defScope s__law_pick) := ⟨rfl, rfl, rfl, by decide +kernel, rfl, by decide +kernel, by decide +kernel⟩
/-! _law_names -/
abbrev s__law_names : Stmt := topS 16
theorem sc__law_names : FnScope n__law_names ["_law_state", "_law_many"] (defScope s__law_names) := ⟨rfl, rfl, rfl, by decide +kernel, rfl, by decide +kernel, by decide +kernel⟩
/-! _law_dealt -/
abbrev s__law_dealt : Stmt := topS 17
theorem sc__law_dealt : FnScope n__law_dealt ["_law_state", "_law_names_here"] (defScope s__law_dealt) := ⟨rfl, rfl, rfl, by decide +kernel, rfl, by decide +kernel, by decide +kernel⟩
/-! _law_moved -/
abbrev s__law_moved : Stmt := topS 18
theorem sc__law_moved : FnScope n__law_moved ["_law_state", "_law_need"] (defScope s__law_moved) := ⟨rfl, rfl, rfl, by decide +kernel, rfl, by decide +kernel, by decide +kernel⟩
/-! _law_spread -/
abbrev s__law_spread : Stmt := topS 19
theorem sc__law_spread : FnScope n__law_spread ["_law_state", "_law_need"] (defScope s__law_spread) := ⟨rfl, rfl, rfl, by decide +kernel, rfl, by decide +kernel, by decide +kernel⟩
/-! _law_sets -/
abbrev s__law_sets : Stmt := topS 20
theorem sc__law_sets : FnScope n__law_sets ["_law_names_here"] (defScope s__law_sets) := ⟨rfl, rfl, rfl, by decide +kernel, rfl, by decide +kernel, by decide +kernel⟩
/-! _law_is_sum -/
abbrev s__law_is_sum : Stmt := topS 21
theorem sc__law_is_sum : FnScope n__law_is_sum ["_law_lots", "_law_need"] (defScope s__law_is_sum) := ⟨rfl, rfl, rfl, by decide +kernel, rfl, by decide +kernel, by decide +kernel⟩
/-! _law_refused -/
abbrev s__law_refused : Stmt := topS 22
theorem sc__law_refused : FnScope n__law_refused ["_law_lots", "_law_need"] (defScope s__law_refused) := ⟨rfl, rfl, rfl, by decide +kernel, rfl, by decide +kernel, by decide +kernel⟩
/-! _law_row_right -/
abbrev s__law_row_right : Stmt := topS 23
theorem sc__law_row_right : FnScope n__law_row_right ["_law_row", "_law_names_here"] (defScope s__law_row_right) := ⟨rfl, rfl, rfl, by decide +kernel, rfl, by decide +kernel, by decide +kernel⟩
/-! _law_heaps_right -/
abbrev s__law_heaps_right : Stmt := topS 24
theorem sc__law_heaps_right : FnScope n__law_heaps_right ["_law_lots", "_law_need"] (defScope s__law_heaps_right) := ⟨rfl, rfl, rfl, by decide +kernel, rfl, by decide +kernel, by decide +kernel⟩
/-! law -/
abbrev s_law : Stmt := topS 25
theorem sc_law : FnScope n_law ["_law_script"] (defScope s_law) := ⟨rfl, rfl, rfl, by decide +kernel, rfl, by decide +kernel, by decide +kernel⟩

structure Tx (K : Fg) (mg : Str → Option Value) where
  m_sum : mg "sum" = none
  m_min : mg "min" = none
  m_sorted : mg "sorted" = none
  m_enumerate : mg "enumerate" = none
  m_max : mg "max" = none
  m_set : mg "set" = none
  m_list : mg "list" = none
  m_zip : mg "zip" = none
  m_tuple : mg "tuple" = none
  m_dict : mg "dict" = none
  m_abs : mg "abs" = none
  m_len : mg "len" = none
  m_range : mg "range" = none
  m_isinstance : mg "isinstance" = none
  m_ValueError : mg "ValueError" = none
  m_int : mg "int" = none
  m_bool : mg "bool" = none
  m_repr : mg "repr" = none
  m_all : mg "all" = none
  f_reach : Addr
  d_reach : FuncData
  F_reach : Fun K "reach" "reach" s_reach f_reach d_reach
  b_reach : Binds K d_reach ["sizes", "many"] []
  g_reach : mg "reach" = some (.ref f_reach)
  f_holds : Addr
  d_holds : FuncData
  F_holds : Fun K "holds" "holds" s_holds f_holds d_holds
  b_holds : Binds K d_holds ["sizes", "wanted"] []
  g_holds : mg "holds" = some (.ref f_holds)
  f_above : Addr
  d_above : FuncData
  F_above : Fun K "above" "above" s_above f_above d_above
  b_above : Binds K d_above ["left", "level", "times"] []
  g_above : mg "above" = some (.ref f_above)
  f_share : Addr
  d_share : FuncData
  F_share : Fun K "share" "share" s_share f_share d_share
  b_share : Binds K d_share ["left", "size", "times"] []
  g_share : mg "share" = some (.ref f_share)
  f_laid : Addr
  d_laid : FuncData
  F_laid : Fun K "laid" "laid" s_laid f_laid d_laid
  b_laid : Binds K d_laid ["taken", "size", "times"] []
  g_laid : mg "laid" = some (.ref f_laid)
  f_heaps : Addr
  d_heaps : FuncData
  F_heaps : Fun K "heaps" "heaps" s_heaps f_heaps d_heaps
  b_heaps : Binds K d_heaps ["sizes", "wanted"] []
  g_heaps : mg "heaps" = some (.ref f_heaps)
  f__law_begun : Addr
  d__law_begun : FuncData
  F__law_begun : Fun K "_law_begun" "_law_begun" s__law_begun f__law_begun d__law_begun
  b__law_begun : Binds K d__law_begun ["_law_script"] []
  g__law_begun : mg "_law_begun" = some (.ref f__law_begun)
  f__law_draw : Addr
  d__law_draw : FuncData
  F__law_draw : Fun K "_law_draw" "_law_draw" s__law_draw f__law_draw d__law_draw
  b__law_draw : Binds K d__law_draw ["_law_state", "_law_many"] []
  g__law_draw : mg "_law_draw" = some (.ref f__law_draw)
  f__law_pick : Addr
  d__law_pick : FuncData
  F__law_pick : Fun K "_law_pick" "_law_pick" s__law_pick f__law_pick d__law_pick
  b__law_pick : Binds K d__law_pick ["_law_state", "_law_some"] []
  g__law_pick : mg "_law_pick" = some (.ref f__law_pick)
  f__law_names : Addr
  d__law_names : FuncData
  F__law_names : Fun K "_law_names" "_law_names" s__law_names f__law_names d__law_names
  b__law_names : Binds K d__law_names ["_law_state", "_law_many"] []
  g__law_names : mg "_law_names" = some (.ref f__law_names)
  f__law_dealt : Addr
  d__law_dealt : FuncData
  F__law_dealt : Fun K "_law_dealt" "_law_dealt" s__law_dealt f__law_dealt d__law_dealt
  b__law_dealt : Binds K d__law_dealt ["_law_state", "_law_names_here"] []
  g__law_dealt : mg "_law_dealt" = some (.ref f__law_dealt)
  f__law_moved : Addr
  d__law_moved : FuncData
  F__law_moved : Fun K "_law_moved" "_law_moved" s__law_moved f__law_moved d__law_moved
  b__law_moved : Binds K d__law_moved ["_law_state", "_law_need"] []
  g__law_moved : mg "_law_moved" = some (.ref f__law_moved)
  f__law_spread : Addr
  d__law_spread : FuncData
  F__law_spread : Fun K "_law_spread" "_law_spread" s__law_spread f__law_spread d__law_spread
  b__law_spread : Binds K d__law_spread ["_law_state", "_law_need"] []
  g__law_spread : mg "_law_spread" = some (.ref f__law_spread)
  f__law_sets : Addr
  d__law_sets : FuncData
  F__law_sets : Fun K "_law_sets" "_law_sets" s__law_sets f__law_sets d__law_sets
  b__law_sets : Binds K d__law_sets ["_law_names_here"] []
  g__law_sets : mg "_law_sets" = some (.ref f__law_sets)
  f__law_is_sum : Addr
  d__law_is_sum : FuncData
  F__law_is_sum : FunC K "_law_is_sum" "_law_is_sum" s__law_is_sum f__law_is_sum d__law_is_sum (tabC K "_law_is_sum")
  b__law_is_sum : Binds K d__law_is_sum ["_law_lots", "_law_need"] []
  g__law_is_sum : mg "_law_is_sum" = some (.ref f__law_is_sum)
  f__law_refused : Addr
  d__law_refused : FuncData
  F__law_refused : Fun K "_law_refused" "_law_refused" s__law_refused f__law_refused d__law_refused
  b__law_refused : Binds K d__law_refused ["_law_lots", "_law_need"] []
  g__law_refused : mg "_law_refused" = some (.ref f__law_refused)
  f__law_row_right : Addr
  d__law_row_right : FuncData
  F__law_row_right : Fun K "_law_row_right" "_law_row_right" s__law_row_right f__law_row_right d__law_row_right
  b__law_row_right : Binds K d__law_row_right ["_law_row", "_law_names_here"] []
  g__law_row_right : mg "_law_row_right" = some (.ref f__law_row_right)
  f__law_heaps_right : Addr
  d__law_heaps_right : FuncData
  F__law_heaps_right : Fun K "_law_heaps_right" "_law_heaps_right" s__law_heaps_right f__law_heaps_right d__law_heaps_right
  b__law_heaps_right : Binds K d__law_heaps_right ["_law_lots", "_law_need"] []
  g__law_heaps_right : mg "_law_heaps_right" = some (.ref f__law_heaps_right)
  f_law : Addr
  d_law : FuncData
  F_law : Fun K "law" "law" s_law f_law d_law
  g_LeftError : mg "LeftError" = some (.ref (cErr K "LeftError"))
  g_NoPast : mg "NoPast" = some (.ref (cErr K "NoPast"))
  g_NoSum : mg "NoSum" = some (.ref (cErr K "NoSum"))
  g_NoTally : mg "NoTally" = some (.ref (cErr K "NoTally"))
  rc_NoSum : BX.ErrC K (cErr K "NoSum")
  rf_NoSum : Refd K "NoSum"
  kb_heaps_wanted_sizes : KwB K d_heaps ["sizes", "wanted"] ["wanted", "sizes"] [1, 0]
  kb_holds_wanted_sizes : KwB K d_holds ["sizes", "wanted"] ["wanted", "sizes"] [1, 0]

section
variable {P : Program} {w : World} {K : Fg} {mg : Str → Option Value} {base : Heap}
theorem der_reach (T : Tx K mg) {cdv : Value} {A : Around} {outer : List Env} {s : Shared} {H : Hp} {E : XK} (hr : Room 0 (A.deeper (envOfC "reach" (defScope s_reach) s.heap.objs.size T.f_reach cdv))) :
    PSs (cxOf CX0 P w K mg base n_reach "reach" (defScope s_reach) T.f_reach cdv A outer s H E).nox (defBody s_reach) (t_reach K) :=
  have nd := sc_reach.nd
  (pss_one (ps_ret (pe_callB (cr_sum rfl) (by rfl) T.m_sum (by decide +kernel) (pa_cons (pe_lock (pe_lc (own := [("size", 2), ("times", 3)]) rfl nd (pi_items (pv 0)) (blkOk_by (own := [("size", 2), ("times", 3)]) (N := n_reach) (sc := defScope s_reach) (by decide +kernel)) (fun _ _ _ _ _ => (pg_tup rfl (pgs_cons (pg_name (i := 2) nd rfl (by first | exact Or.inl rfl | exact Or.inr rfl)) (pgs_cons (pg_name (i := 3) nd rfl (by first | exact Or.inl rfl | exact Or.inr rfl)) pgs_nil)))) (fun _ _ _ _ _ => pts_nil) (fun _ _ _ _ _ => (pe_op op_mul (pv 3) (pe_callB (cr_min2 rfl) (by rfl) T.m_min (by decide +kernel) (pa_cons (pv 2) (pa_cons (pv 1) pa_nil))))))) pa_nil))))
theorem ok_reach (T : Tx K mg) : FnOk P w K mg base CX0 1 T.f_reach T.d_reach ["sizes", "many"] (sp_reach K) :=
  T.F_reach.ok sc_reach (fun vs H Q E h => len_reach h) (fun cdv A outer s H vs Q E hr h => ⟨t_reach K, der_reach T hr, rd_reach h⟩)
theorem der_holds (T : Tx K mg) {cdv : Value} {A : Around} {outer : List Env} {s : Shared} {H : Hp} {E : XK} (hr : Room 1 (A.deeper (envOfC "holds" (defScope s_holds) s.heap.objs.size T.f_holds cdv))) :
    PSs (cxOf CX0 P w K mg base n_holds "holds" (defScope s_holds) T.f_holds cdv A outer s H E).nox (defBody s_holds) (t_holds K) :=
  have nd := sc_holds.nd
  (pss_cons (ps_set (i := 2) nd rfl (Or.inl rfl) (pe_callBK (cr_sortedVR rfl) (by rfl) T.m_sorted (by decide +kernel) (pa_cons (pe_vals (pv 1)) pa_nil) (pk_cons pe_bl pk_nil)))
  (pss_cons (ps_if (pt_cmpR op_ne (pe_callB (cr_sum rfl) (by rfl) T.m_sum (by decide +kernel) (pa_cons (pv 2) pa_nil)) (pe_call (ok_reach T) (hr.mono (by decide)) (by rfl) T.g_reach T.F_reach.kp T.b_reach .nil pass0 (pa_cons (pv 0) (pa_cons pe_int pa_nil))) (nomark _)) (pss_one (ps_ret pe_bl)) pss_nil)
  (pss_cons (ps_set (i := 3) nd rfl (Or.inl rfl) pe_int)
  (pss_cons (ps_for PassesOwn.never rfl (pi_enum rfl T.m_enumerate (pa_cons (pv 2) pa_nil)) (pg_tup rfl (pgs_cons (pg_name (i := 4) nd rfl (by first | exact Or.inl rfl | exact Or.inr rfl)) (pgs_cons (pg_name (i := 5) nd rfl (by first | exact Or.inl rfl | exact Or.inr rfl)) pgs_nil)))
  (pss_cons (ps_aug (i := 3) nd rfl (Or.inl rfl) (pv 5) ip_add)
  (pss_one (ps_if (pt_cmpR op_gt (pv 3) (pe_call (ok_reach T) (hr.mono (by decide)) (by rfl) T.g_reach T.F_reach.kp T.b_reach .nil pass0 (pa_cons (pv 0) (pa_cons (pe_op op_add (pv 4) pe_int) pa_nil))) (nomark _)) (pss_one (ps_ret pe_bl)) pss_nil))))
  (pss_one (ps_ret pe_bl))))))
theorem ok_holds (T : Tx K mg) : FnOk P w K mg base CX0 2 T.f_holds T.d_holds ["sizes", "wanted"] (sp_holds K) :=
  T.F_holds.ok sc_holds (fun vs H Q E h => len_holds h) (fun cdv A outer s H vs Q E hr h => ⟨t_holds K, der_holds T hr, rd_holds h⟩)
theorem der_above (T : Tx K mg) {cdv : Value} {A : Around} {outer : List Env} {s : Shared} {H : Hp} {E : XK} (hr : Room 0 (A.deeper (envOfC "above" (defScope s_above) s.heap.objs.size T.f_above cdv))) :
    PSs (cxOf CX0 P w K mg base n_above "above" (defScope s_above) T.f_above cdv A outer s H E).nox (defBody s_above) (t_above K) :=
  have nd := sc_above.nd
  (pss_one (ps_ret (pe_lock (pe_dc (own := [("name", 3), ("number", 4)]) rfl nd (pi_items (pv 0)) (blkOk_by (own := [("name", 3), ("number", 4)]) (N := n_above) (sc := defScope s_above) (by decide +kernel)) (fun _ _ _ _ _ => (pg_tup rfl (pgs_cons (pg_name (i := 3) nd rfl (by first | exact Or.inl rfl | exact Or.inr rfl)) (pgs_cons (pg_name (i := 4) nd rfl (by first | exact Or.inl rfl | exact Or.inr rfl)) pgs_nil)))) (fun _ _ _ _ _ => pts_nil) (fun _ _ _ _ _ => (pv 3)) (fun _ _ _ _ _ => (pe_callB (cr_min2 rfl) (by rfl) T.m_min (by decide +kernel) (pa_cons (pv 2) (pa_cons (pe_callB (cr_max2 rfl) (by rfl) T.m_max (by decide +kernel) (pa_cons pe_int (pa_cons (pe_op op_sub (pv 4) (pv 1)) pa_nil))) pa_nil))))))))
theorem ok_above (T : Tx K mg) : FnOk P w K mg base CX0 1 T.f_above T.d_above ["left", "level", "times"] (sp_above K) :=
  T.F_above.ok sc_above (fun vs H Q E h => len_above h) (fun cdv A outer s H vs Q E hr h => ⟨t_above K, der_above T hr, rd_above h⟩)
theorem der_share (T : Tx K mg) {cdv : Value} {A : Around} {outer : List Env} {s : Shared} {H : Hp} {E : XK} (hr : Room 1 (A.deeper (envOfC "share" (defScope s_share) s.heap.objs.size T.f_share cdv))) :
    PSs (cxOf CX0 P w K mg base n_share "share" (defScope s_share) T.f_share cdv A outer s H E).nox (defBody s_share) (t_share K) :=
  have nd := sc_share.nd
  (pss_cons (ps_par3 (i := 3) (j := 4) (l := 5) rfl nd rfl rfl rfl (by decide) (by decide) (by decide) rfl rfl rfl (pa_cons (pe_op op_mul (pv 1) (pv 2)) (pa_cons pe_int (pa_cons (pe_callB (cr_maxV rfl) (by rfl) T.m_max (by decide +kernel) (pa_cons (pe_vals (pv 0)) pa_nil)) pa_nil))) (by rfl))
  (pss_cons (ps_while PassesOwn.never (pt_cmpR op_lt (pv 4) (pv 5) (nomark _))
  (pss_cons (ps_set (i := 6) nd rfl (Or.inl rfl) (pe_op op_fdiv (pe_op op_add (pe_op op_add (pv 4) (pv 5)) pe_int) pe_int))
  (pss_one (ps_if (pt_cmpR op_ge (pe_callB (cr_sumV rfl) (by rfl) T.m_sum (by decide +kernel) (pa_cons (pe_vals (pe_call (ok_above T) (hr.mono (by decide)) (by rfl) T.g_above T.F_above.kp T.b_above .nil pass0 (pa_cons (pv 0) (pa_cons (pv 6) (pa_cons (pv 2) pa_nil))))) pa_nil)) (pv 3) (nomark _)) (pss_one (ps_set (i := 4) nd rfl (Or.inl rfl) (pv 6))) (pss_one (ps_set (i := 5) nd rfl (Or.inl rfl) (pe_op op_sub (pv 6) pe_int)))))))
  (pss_cons (ps_par (i := 7) (j := 8) rfl nd rfl rfl (by decide) rfl rfl (pa_cons (pe_call (ok_above T) (hr.mono (by decide)) (by rfl) T.g_above T.F_above.kp T.b_above .nil pass0 (pa_cons (pv 0) (pa_cons (pv 4) (pa_cons (pv 2) pa_nil)))) (pa_cons (pe_call (ok_above T) (hr.mono (by decide)) (by rfl) T.g_above T.F_above.kp T.b_above .nil pass0 (pa_cons (pv 0) (pa_cons (pe_op op_add (pv 4) pe_int) (pa_cons (pv 2) pa_nil)))) pa_nil)) (by rfl))
  (pss_cons (ps_set (i := 9) nd rfl (Or.inl rfl) (pe_op op_sub (pe_callB (cr_sumV rfl) (by rfl) T.m_sum (by decide +kernel) (pa_cons (pe_vals (pv 7)) pa_nil)) (pv 3)))
  (pss_cons (ps_for PassesOwn.never rfl (pi_list (pe_callB cr_sortedDS (by rfl) T.m_sorted (by decide +kernel) (pa_cons (pv 0) pa_nil))) (pg_name (i := 10) nd rfl (by first | exact Or.inl rfl | exact Or.inr rfl))
  (pss_one (ps_if (PW.pt (pw_and (pt_cmpR op_gt (pv 9) pe_int (nomark _)) (pw_and1 (pt_cmpR op_gt (pe_dget (hu_of hr) (pv 7) (pv 10) (fun _ _ => rfl)) (pe_dget (hu_of hr) (pv 8) (pv 10) (fun _ _ => rfl)) (nomark _))))) (pss_cons (ps_dput (hu_of hr) (pv 7) (pv 10) (pe_dget (hu_of hr) (pv 8) (pv 10) (fun _ _ => rfl)) rfl)
  (pss_one (ps_aug (i := 9) nd rfl (Or.inl rfl) pe_int ip_sub))) pss_nil)))
  (pss_one (ps_ret (pv 7))))))))
theorem ok_share (T : Tx K mg) : FnOk P w K mg base CX0 2 T.f_share T.d_share ["left", "size", "times"] (sp_share K) :=
  T.F_share.ok sc_share (fun vs H Q E h => len_share h) (fun cdv A outer s H vs Q E hr h => ⟨t_share K, der_share T hr, rd_share h⟩)
theorem der_laid (T : Tx K mg) {cdv : Value} {A : Around} {outer : List Env} {s : Shared} {H : Hp} {E : XK} (hr : Room 0 (A.deeper (envOfC "laid" (defScope s_laid) s.heap.objs.size T.f_laid cdv))) :
    PSs (cxOf CX0 P w K mg base n_laid "laid" (defScope s_laid) T.f_laid cdv A outer s H E).nox (defBody s_laid) (t_laid K) :=
  have nd := sc_laid.nd
  (pss_cons (ps_asg (pe_tup (pa_cons pe_dnewK (pa_cons pe_int pa_nil))) (pg_tup rfl (pgs_cons (pg_name (i := 3) nd rfl (by first | exact Or.inl rfl | exact Or.inr rfl)) (pgs_cons (pg_name (i := 4) nd rfl (by first | exact Or.inl rfl | exact Or.inr rfl)) pgs_nil))))
  (pss_cons (ps_for PassesOwn.never rfl (pi_list (pe_callB cr_sortedDS (by rfl) T.m_sorted (by decide +kernel) (pa_cons (pv 0) pa_nil))) (pg_name (i := 5) nd rfl (by first | exact Or.inl rfl | exact Or.inr rfl))
  (pss_cons (ps_dput (hu_of hr) (pv 3) (pv 5) (pe_op op_mod (pv 4) (pv 2)) rfl)
  (pss_one (ps_aug (i := 4) nd rfl (Or.inl rfl) (pe_dget (hu_of hr) (pv 0) (pv 5) (fun _ _ => rfl)) ip_add))))
  (pss_cons (ps_par (i := 6) (j := 7) rfl nd rfl rfl (by decide) rfl rfl (pa_cons (BY.pe_sortSetL (by rfl) T.m_sorted (by rfl) T.m_set (pe_op op_cat (pe_lst (pa_cons pe_int (pa_cons (pv 2) pa_nil))) (pe_callTy (cr_listV rfl) (by rfl) T.m_list (by decide +kernel) (pa_cons (pe_vals (pv 3)) pa_nil)))) (pa_cons (pe_lst pa_nil) pa_nil)) (by rfl))
  (pss_cons (ps_for PassesOwn.never rfl (pi_zip rfl T.m_zip (pa_cons (pv 6) (pa_cons (pe_slice sl_list (pv 6) (po_some pe_int) po_none) pa_nil))) (pg_tup rfl (pgs_cons (pg_name (i := 8) nd rfl (by first | exact Or.inl rfl | exact Or.inr rfl)) (pgs_cons (pg_name (i := 9) nd rfl (by first | exact Or.inl rfl | exact Or.inr rfl)) pgs_nil)))
  (pss_cons (ps_setLc (i := 10) (own := [("name", 5)]) rfl nd rfl rfl (sw_true rfl rfl rfl (by decide +kernel)) (pi_list (pe_callB cr_sortedDS (by rfl) T.m_sorted (by decide +kernel) (pa_cons (pv 0) pa_nil))) (blkOk_by (own := [("name", 5)]) (N := n_laid) (sc := defScope s_laid) (by decide +kernel)) (fun _ _ _ _ _ => (pg_name (i := 5) nd rfl (by first | exact Or.inl rfl | exact Or.inr rfl))) (fun _ _ _ _ _ => (pts_one (pt_cmpR op_lt (pe_op op_mod (pe_op op_sub (pv 8) (pe_dget (hu_of hr) (pv 3) (pv 5) (fun _ _ => rfl))) (pv 2)) (pe_dget (hu_of hr) (pv 0) (pv 5) (fun _ _ => rfl)) (nomark _)))) (fun _ _ _ _ _ => (pv 5)))
  (pss_one (ps_expr (pe_bm PySem.F.plainAttrs_list PySem.F.slot_list_append PySem.F.type_list_append mt_append (pv 7) (pa_cons (pe_tup (pa_cons (pe_callTy cr_tupleO (by rfl) T.m_tuple (by decide +kernel) (pa_cons (pv 10) pa_nil)) (pa_cons (pe_op op_sub (pv 9) (pv 8)) pa_nil))) pa_nil))))))
  (pss_one (ps_ret (pv 7)))))))
theorem ok_laid (T : Tx K mg) : FnOk P w K mg base CX0 1 T.f_laid T.d_laid ["taken", "size", "times"] (sp_laid K) :=
  T.F_laid.ok sc_laid (fun vs H Q E h => len_laid h) (fun cdv A outer s H vs Q E hr h => ⟨t_laid K, der_laid T hr, rd_laid h⟩)
theorem der_heaps (T : Tx K mg) {cdv : Value} {A : Around} {outer : List Env} {s : Shared} {H : Hp} {E : XK} (hr : Room 2 (A.deeper (envOfC "heaps" (defScope s_heaps) s.heap.objs.size T.f_heaps cdv))) :
    PSs (cxOf (L2.CX P w) P w K mg base n_heaps "heaps" (defScope s_heaps) T.f_heaps cdv A outer s H E) (defBody s_heaps) (t_heaps K E) :=
  have nd := sc_heaps.nd
  (pss_cons (ps_if (pt_not (pt_val (pe_call (ok_holds T) (hr.mono (by decide)) (by rfl) T.g_holds T.F_holds.kp T.b_holds .nil pass0 (pa_cons (pv 0) (pa_cons (pv 1) pa_nil))))) (pss_one (BX.ps_raiseO T.rc_NoSum T.g_NoSum rfl rfl rfl rfl rfl (by rfl))) pss_nil)
  (pss_cons (ps_par (i := 2) (j := 3) rfl nd rfl rfl (by decide) rfl rfl (pa_cons (pe_callTy cr_dictC (by rfl) T.m_dict (by decide +kernel) (pa_cons (pv 1) pa_nil)) (pa_cons (pe_lst pa_nil) pa_nil)) (by rfl))
  (pss_cons (ps_for (passes_of rfl) rfl (pi_list (pe_callBK (cr_sortedDRI rfl) (by rfl) T.m_sorted (by decide +kernel) (pa_cons (pv 0) pa_nil) (pk_cons pe_bl pk_nil))) (pg_name (i := 4) nd rfl (by first | exact Or.inl rfl | exact Or.inr rfl))
  (pss_one (ps_if (pt_cmpR op_gt (pe_dget (hu_of hr) (pv 0) (pv 4) (fun _ _ => rfl)) pe_int (nomark _)) (pss_cons (ps_set (i := 5) nd rfl (Or.inr rfl) (pe_call (ok_share T) (hr.mono (by decide)) (by rfl) T.g_share T.F_share.kp T.b_share .nil pass0 (pa_cons (pv 2) (pa_cons (pv 4) (pa_cons (pe_dget (hu_of hr) (pv 0) (pv 4) (fun _ _ => rfl)) pa_nil)))))
  (pss_cons (ps_lock (ps_setDc (i := 2) (own := [("name", 6), ("number", 7)]) rfl nd rfl rfl (sw_trueD rfl rfl rfl (by decide +kernel)) (pi_items (pv 2)) (blkOk_by (own := [("name", 6), ("number", 7)]) (N := n_heaps) (sc := defScope s_heaps) (by decide +kernel)) (fun _ _ _ _ _ => (pg_tup rfl (pgs_cons (pg_name (i := 6) nd rfl (by first | exact Or.inl rfl | exact Or.inr rfl)) (pgs_cons (pg_name (i := 7) nd rfl (by first | exact Or.inl rfl | exact Or.inr rfl)) pgs_nil)))) (fun _ _ _ _ _ => pts_nil) (fun _ _ _ _ _ => (pv 6)) (fun _ _ _ _ _ => (pe_op op_sub (pv 7) (pe_dget (hu_of hr) (pv 5) (pv 6) (fun _ _ => rfl))))))
  (pss_one (ps_aug (i := 3) nd rfl (Or.inl rfl) (pe_call (ok_laid T) (hr.mono (by decide)) (by rfl) T.g_laid T.F_laid.kp T.b_laid .nil pass0 (pa_cons (pv 5) (pa_cons (pv 4) (pa_cons (pe_dget (hu_of hr) (pv 0) (pv 4) (fun _ _ => rfl)) pa_nil)))) iop_ext)))) pss_nil)))
  (pss_one (ps_ret (pv 3))))))
theorem ok_heaps (T : Tx K mg) : FnOk P w K mg base (L2.CX P w) 3 T.f_heaps T.d_heaps ["sizes", "wanted"] (sp_heaps K) :=
  T.F_heaps.okX sc_heaps (fun vs H Q E h => len_heaps h) (fun cdv A outer s H vs Q E hr h => ⟨t_heaps K E, der_heaps T hr, rd_heaps h⟩)
theorem der__law_begun (T : Tx K mg) {cdv : Value} {A : Around} {outer : List Env} {s : Shared} {H : Hp} {E : XK} (hr : Room 0 (A.deeper (envOfC "_law_begun" (defScope s__law_begun) s.heap.objs.size T.f__law_begun cdv))) :
    PSs (cxOf CX0 P w K mg base n__law_begun "_law_begun" (defScope s__law_begun) T.f__law_begun cdv A outer s H E).nox (defBody s__law_begun) (t__law_begun K) :=
  have nd := sc__law_begun.nd
  (pss_cons (ps_setLc (i := 1) (own := [("_law_cell", 2)]) rfl nd rfl rfl (sw_true rfl rfl rfl (by decide +kernel)) (pi_list (pv 0)) (blkOk_by (own := [("_law_cell", 2)]) (N := n__law_begun) (sc := defScope s__law_begun) (by decide +kernel)) (fun _ _ _ _ _ => (pg_name (i := 2) nd rfl (by first | exact Or.inl rfl | exact Or.inr rfl))) (fun _ _ _ _ _ => pts_nil) (fun _ _ _ _ _ => (pe_callB cr_abs (by rfl) T.m_abs (by decide +kernel) (pa_cons (pv 2) pa_nil))))
  (pss_cons (ps_if (pt_cmpR (op_eqT hr.units) (pv 1) (pe_lst pa_nil) (nomark _)) (pss_one (ps_set (i := 1) nd rfl (Or.inl rfl) (pe_lst (pa_cons pe_int pa_nil)))) pss_nil)
  (pss_one (ps_ret (pe_lst (pa_cons (pv 1) (pa_cons pe_int (pa_cons pe_int pa_nil))))))))
theorem ok__law_begun (T : Tx K mg) : FnOk P w K mg base CX0 1 T.f__law_begun T.d__law_begun ["_law_script"] (sp__law_begun K) :=
  T.F__law_begun.ok sc__law_begun (fun vs H Q E h => len__law_begun h) (fun cdv A outer s H vs Q E hr h => ⟨t__law_begun K, der__law_begun T hr, rd__law_begun h⟩)
theorem der__law_draw (T : Tx K mg) {cdv : Value} {A : Around} {outer : List Env} {s : Shared} {H : Hp} {E : XK} (hr : Room 0 (A.deeper (envOfC "_law_draw" (defScope s__law_draw) s.heap.objs.size T.f__law_draw cdv))) :
    PSs (cxOf CX0 P w K mg base n__law_draw "_law_draw" (defScope s__law_draw) T.f__law_draw cdv A outer s H E).nox (defBody s__law_draw) (t__law_draw K) :=
  have nd := sc__law_draw.nd
  (pss_cons (ps_set (i := 2) nd rfl (Or.inl rfl) (pe_ix ix_list (pv 0) pe_int (fun _ _ => rfl)))
  (pss_cons (ps_set (i := 3) nd rfl (Or.inl rfl) (pe_op op_mod (pe_ix ix_list (pv 0) pe_int (fun _ _ => rfl)) (pe_callB cr_len (by rfl) T.m_len (by decide +kernel) (pa_cons (pv 2) pa_nil))))
  (pss_cons (ps_set (i := 4) nd rfl (Or.inl rfl) (pe_ix ix_list (pv 2) (pv 3) (fun _ _ => rfl)))
  (pss_cons (ps_if (pt_cmpR op_ge (pv 4) (pe_op op_pow pe_int pe_int) (nomark _)) (pss_cons (ps_asg (pe_op op_fdiv (pv 4) (pv 1)) (pg_sub (pv 2) (pv 3) set_list))
  (pss_one (ps_ret (pe_op op_mod (pv 4) (pv 1))))) pss_nil)
  (pss_cons (ps_asg (pe_op op_add (pe_ix ix_list (pv 0) pe_int (fun _ _ => rfl)) pe_int) (pg_sub (pv 0) pe_int set_list))
  (pss_cons (ps_asg (pe_op op_mod (pe_op op_add (pe_op op_add (pe_op op_mul (pe_ix ix_list (pv 0) pe_int (fun _ _ => rfl)) pe_int) (pv 4)) pe_int) pe_int) (pg_sub (pv 0) pe_int set_list))
  (pss_one (ps_ret (pe_op op_mod (pe_op op_fdiv (pe_op op_mod (pe_op op_mul (pe_ix ix_list (pv 0) pe_int (fun _ _ => rfl)) (pe_ix ix_list (pv 0) pe_int (fun _ _ => rfl))) pe_int) pe_int) (pv 1))))))))))
theorem ok__law_draw (T : Tx K mg) : FnOk P w K mg base CX0 1 T.f__law_draw T.d__law_draw ["_law_state", "_law_many"] (sp__law_draw K) :=
  T.F__law_draw.ok sc__law_draw (fun vs H Q E h => len__law_draw h) (fun cdv A outer s H vs Q E hr h => ⟨t__law_draw K, der__law_draw T hr, rd__law_draw h⟩)
theorem der__law_pick (T : Tx K mg) {cdv : Value} {A : Around} {outer : List Env} {s : Shared} {H : Hp} {E : XK} (hr : Room 1 (A.deeper (envOfC "_law_pick" (defScope s__law_pick) s.heap.objs.size T.f__law_pick cdv))) :
    PSs (cxOf CX0 P w K mg base n__law_pick "_law_pick" (defScope s__law_pick) T.f__law_pick cdv A outer s H E).nox (defBody s__law_pick) (t__law_pick K) :=
  have nd := sc__law_pick.nd
  (pss_one (ps_ret (pe_ix ix_list (pv 1) (pe_call (ok__law_draw T) (hr.mono (by decide)) (by rfl) T.g__law_draw T.F__law_draw.kp T.b__law_draw .nil pass0 (pa_cons (pv 0) (pa_cons (pe_callB cr_len (by rfl) T.m_len (by decide +kernel) (pa_cons (pv 1) pa_nil)) pa_nil))) (fun _ _ => rfl))))
theorem ok__law_pick (T : Tx K mg) : FnOk P w K mg base CX0 2 T.f__law_pick T.d__law_pick ["_law_state", "_law_some"] (sp__law_pick K) :=
  T.F__law_pick.ok sc__law_pick (fun vs H Q E h => len__law_pick h) (fun cdv A outer s H vs Q E hr h => ⟨t__law_pick K, der__law_pick T hr, rd__law_pick h⟩)
theorem der__law_names (T : Tx K mg) {cdv : Value} {A : Around} {outer : List Env} {s : Shared} {H : Hp} {E : XK} (hr : Room 2 (A.deeper (envOfC "_law_names" (defScope s__law_names) s.heap.objs.size T.f__law_names cdv))) :
    PSs (cxOf CX0 P w K mg base n__law_names "_law_names" (defScope s__law_names) T.f__law_names cdv A outer s H E).nox (defBody s__law_names) (t__law_names K) :=
  have nd := sc__law_names.nd
  (pss_cons (ps_set (i := 2) nd rfl (Or.inl rfl) (pe_split pe_str pe_str))
  (pss_cons (ps_set (i := 3) nd rfl (Or.inr rfl) (pe_lst pa_nil))
  (pss_cons (ps_for PassesOwn.never rfl (pi_range1 rfl T.m_range (pa_cons (pv 1) pa_nil)) (pg_name (i := 4) nd rfl (by first | exact Or.inl rfl | exact Or.inr rfl))
  (pss_cons (ps_set (i := 5) nd rfl (Or.inr rfl) (pe_call (ok__law_pick T) (hr.mono (by decide)) (by rfl) T.g__law_pick T.F__law_pick.kp T.b__law_pick .nil pass0 (pa_cons (pv 0) (pa_cons (pv 2) pa_nil))))
  (pss_cons (ps_if (pt_cmpR op_gt (pe_call (ok__law_draw T) (hr.mono (by decide)) (by rfl) T.g__law_draw T.F__law_draw.kp T.b__law_draw .nil pass0 (pa_cons (pv 0) (pa_cons pe_int pa_nil))) pe_int (nomark _)) (pss_one (ps_set (i := 5) nd rfl (Or.inr rfl) (pe_join pe_str (pe_lc (own := [("_law_j", 6)]) rfl nd (pi_range1 rfl T.m_range (pa_cons (pe_op op_add pe_int (pe_call (ok__law_draw T) (hr.mono (by decide)) (by rfl) T.g__law_draw T.F__law_draw.kp T.b__law_draw .nil pass0 (pa_cons (pv 0) (pa_cons pe_int pa_nil)))) pa_nil)) (blkOk_by (own := [("_law_j", 6)]) (N := n__law_names) (sc := defScope s__law_names) (by decide +kernel)) (fun _ _ _ _ _ => (pg_name (i := 6) nd rfl (by first | exact Or.inl rfl | exact Or.inr rfl))) (fun _ _ _ _ _ => pts_nil) (fun _ _ _ _ _ => (pe_ix ix_str pe_str (pe_call (ok__law_draw T) (hr.mono (by decide)) (by rfl) T.g__law_draw T.F__law_draw.kp T.b__law_draw .nil pass0 (pa_cons (pv 0) (pa_cons pe_int pa_nil))) (fun _ _ => rfl))))))) pss_nil)
  (pss_cons (ps_set (i := 7) nd rfl (Or.inl rfl) (pe_op op_cat (pe_lst (pa_cons (pv 5) pa_nil)) (pe_lc (own := [("_law_sign", 8)]) rfl nd (pi_str pe_str) (blkOk_by (own := [("_law_sign", 8)]) (N := n__law_names) (sc := defScope s__law_names) (by decide +kernel)) (fun _ _ _ _ _ => (pg_name (i := 8) nd rfl (by first | exact Or.inl rfl | exact Or.inr rfl))) (fun _ _ _ _ _ => pts_nil) (fun _ _ _ _ _ => (pe_op op_add_str (pe_slice sl_str (pv 5) po_none (po_some pe_int)) (pv 8))))))
  (pss_one (ps_expr (pe_bm PySem.F.plainAttrs_list PySem.F.slot_list_append PySem.F.type_list_append mt_append (pv 3) (pa_cons (pe_ix ix_list (pe_lc (own := [("_law_one", 9)]) rfl nd (pi_list (pv 7)) (blkOk_by (own := [("_law_one", 9)]) (N := n__law_names) (sc := defScope s__law_names) (by decide +kernel)) (fun _ _ _ _ _ => (pg_name (i := 9) nd rfl (by first | exact Or.inl rfl | exact Or.inr rfl))) (fun _ _ _ _ _ => (pts_one (pt_cmpR (op_notInTL hr.units) (pv 9) (pv 3) rfl))) (fun _ _ _ _ _ => (pv 9))) pe_int (fun _ _ => rfl)) pa_nil))))))))
  (pss_one (ps_ret (pv 3))))))
theorem ok__law_names (T : Tx K mg) : FnOk P w K mg base CX0 3 T.f__law_names T.d__law_names ["_law_state", "_law_many"] (sp__law_names K) :=
  T.F__law_names.ok sc__law_names (fun vs H Q E h => len__law_names h) (fun cdv A outer s H vs Q E hr h => ⟨t__law_names K, der__law_names T hr, rd__law_names h⟩)
theorem der__law_dealt (T : Tx K mg) {cdv : Value} {A : Around} {outer : List Env} {s : Shared} {H : Hp} {E : XK} (hr : Room 2 (A.deeper (envOfC "_law_dealt" (defScope s__law_dealt) s.heap.objs.size T.f__law_dealt cdv))) :
    PSs (cxOf CX0 P w K mg base n__law_dealt "_law_dealt" (defScope s__law_dealt) T.f__law_dealt cdv A outer s H E).nox (defBody s__law_dealt) (t__law_dealt K) :=
  have nd := sc__law_dealt.nd
  (pss_cons (ps_par (i := 2) (j := 3) rfl nd rfl rfl (by decide) rfl rfl (pa_cons pe_dnewK (pa_cons (pe_callTy (call_dictP rfl) (by rfl) T.m_dict (by decide +kernel) (pa_cons (pe_lc (own := [("_law_name", 4)]) rfl nd (pi_list (pv 1)) (blkOk_by (own := [("_law_name", 4)]) (N := n__law_dealt) (sc := defScope s__law_dealt) (by decide +kernel)) (fun _ _ _ _ _ => (pg_name (i := 4) nd rfl (by first | exact Or.inl rfl | exact Or.inr rfl))) (fun _ _ _ _ _ => pts_nil) (fun _ _ _ _ _ => (pe_tup (pa_cons (pv 4) (pa_cons pe_int pa_nil))))) pa_nil)) pa_nil)) (by rfl))
  (pss_cons (ps_for PassesOwn.never rfl (pi_range1 rfl T.m_range (pa_cons (pe_call (ok__law_draw T) (hr.mono (by decide)) (by rfl) T.g__law_draw T.F__law_draw.kp T.b__law_draw .nil pass0 (pa_cons (pv 0) (pa_cons pe_int pa_nil))) pa_nil)) (pg_name (i := 5) nd rfl (by first | exact Or.inl rfl | exact Or.inr rfl))
  (pss_cons (ps_set (i := 6) nd rfl (Or.inl rfl) (pe_op op_add pe_int (pe_call (ok__law_draw T) (hr.mono (by decide)) (by rfl) T.g__law_draw T.F__law_draw.kp T.b__law_draw .nil pass0 (pa_cons (pv 0) (pa_cons (pe_callB cr_len (by rfl) T.m_len (by decide +kernel) (pa_cons (pv 1) pa_nil)) pa_nil)))))
  (pss_one (ps_for PassesOwn.never rfl (pi_range1 rfl T.m_range (pa_cons (pe_op op_add pe_int (pe_call (ok__law_draw T) (hr.mono (by decide)) (by rfl) T.g__law_draw T.F__law_draw.kp T.b__law_draw .nil pass0 (pa_cons (pv 0) (pa_cons pe_int pa_nil)))) pa_nil)) (pg_name (i := 7) nd rfl (by first | exact Or.inl rfl | exact Or.inr rfl))
  (pss_cons (ps_par (i := 8) (j := 9) rfl nd rfl rfl (by decide) rfl rfl (pa_cons (pe_callTy cr_listO (by rfl) T.m_list (by decide +kernel) (pa_cons (pv 1) pa_nil)) (pa_cons (pe_op op_add pe_int (pe_call (ok__law_draw T) (hr.mono (by decide)) (by rfl) T.g__law_draw T.F__law_draw.kp T.b__law_draw .nil pass0 (pa_cons (pv 0) (pa_cons (pe_call (ok__law_pick T) (hr.mono (by decide)) (by rfl) T.g__law_pick T.F__law_pick.kp T.b__law_pick .nil pass0 (pa_cons (pv 0) (pa_cons (pe_lst (pa_cons pe_int (pa_cons pe_int (pa_cons pe_int (pa_cons (pe_op op_pow pe_int pe_int) pa_nil))))) pa_nil))) pa_nil)))) pa_nil)) (by rfl))
  (pss_cons (ps_for PassesOwn.never rfl (pi_range1 rfl T.m_range (pa_cons (pv 6) pa_nil)) (pg_name (i := 10) nd rfl (by first | exact Or.inl rfl | exact Or.inr rfl))
  (pss_cons (ps_set (i := 4) nd rfl (Or.inl rfl) (pe_bm PySem.F.plainAttrs_list PySem.F.slot_list_pop PySem.F.type_list_pop mt_popAt (pv 8) (pa_cons (pe_call (ok__law_draw T) (hr.mono (by decide)) (by rfl) T.g__law_draw T.F__law_draw.kp T.b__law_draw .nil pass0 (pa_cons (pv 0) (pa_cons (pe_callB cr_len (by rfl) T.m_len (by decide +kernel) (pa_cons (pv 8) pa_nil)) pa_nil))) pa_nil)))
  (pss_one (ps_dput (hu_of hr) (pv 3) (pv 4) (pe_op op_add (pe_dget (hu_of hr) (pv 3) (pv 4) (fun _ _ => rfl)) (pv 9)) rfl))))
  (pss_one (ps_dput (hu_of hr) (pv 2) (pv 6) (pe_op op_add (pe_dget2 (hu_of hr) (pv 2) (pv 6) pe_int ⟨rfl, rfl, rfl, rfl⟩) (pv 9)) rfl))))))))
  (pss_cons (ps_for PassesOwn.never rfl (pi_range1 rfl T.m_range (pa_cons (pe_call (ok__law_draw T) (hr.mono (by decide)) (by rfl) T.g__law_draw T.F__law_draw.kp T.b__law_draw .nil pass0 (pa_cons (pv 0) (pa_cons pe_int pa_nil))) pa_nil)) (pg_name (i := 5) nd rfl (by first | exact Or.inl rfl | exact Or.inr rfl))
  (pss_one (ps_expr (pe_dsetd (pv 2) (pe_op op_add pe_int (pe_call (ok__law_draw T) (hr.mono (by decide)) (by rfl) T.g__law_draw T.F__law_draw.kp T.b__law_draw .nil pass0 (pa_cons (pv 0) (pa_cons pe_int pa_nil)))) pe_int ⟨rfl, rfl, rfl, rfl⟩))))
  (pss_one (ps_ret (pe_tup (pa_cons (pv 2) (pa_cons (pv 3) pa_nil))))))))
theorem ok__law_dealt (T : Tx K mg) : FnOk P w K mg base CX0 3 T.f__law_dealt T.d__law_dealt ["_law_state", "_law_names_here"] (sp__law_dealt K) :=
  T.F__law_dealt.ok sc__law_dealt (fun vs H Q E h => len__law_dealt h) (fun cdv A outer s H vs Q E hr h => ⟨t__law_dealt K, der__law_dealt T hr, rd__law_dealt h⟩)
theorem der__law_moved (T : Tx K mg) {cdv : Value} {A : Around} {outer : List Env} {s : Shared} {H : Hp} {E : XK} (hr : Room 2 (A.deeper (envOfC "_law_moved" (defScope s__law_moved) s.heap.objs.size T.f__law_moved cdv))) :
    PSs (cxOf CX0 P w K mg base n__law_moved "_law_moved" (defScope s__law_moved) T.f__law_moved cdv A outer s H E).nox (defBody s__law_moved) (t__law_moved K) :=
  have nd := sc__law_moved.nd
  (pss_cons (ps_par (i := 2) (j := 3) rfl nd rfl rfl (by decide) rfl rfl (pa_cons (pe_callTy cr_dictC (by rfl) T.m_dict (by decide +kernel) (pa_cons (pv 1) pa_nil)) (pa_cons (pe_callB cr_sortedDS (by rfl) T.m_sorted (by decide +kernel) (pa_cons (pv 1) pa_nil)) pa_nil)) (by rfl))
  (pss_cons (ps_par3 (i := 4) (j := 5) (l := 6) rfl nd rfl rfl rfl (by decide) (by decide) (by decide) rfl rfl rfl (pa_cons (pe_call (ok__law_pick T) (hr.mono (by decide)) (by rfl) T.g__law_pick T.F__law_pick.kp T.b__law_pick .nil pass0 (pa_cons (pv 0) (pa_cons (pv 3) pa_nil))) (pa_cons (pe_call (ok__law_pick T) (hr.mono (by decide)) (by rfl) T.g__law_pick T.F__law_pick.kp T.b__law_pick .nil pass0 (pa_cons (pv 0) (pa_cons (pv 3) pa_nil))) (pa_cons (pe_call (ok__law_draw T) (hr.mono (by decide)) (by rfl) T.g__law_draw T.F__law_draw.kp T.b__law_draw .nil pass0 (pa_cons (pv 0) (pa_cons pe_int pa_nil))) pa_nil))) (by rfl))
  (pss_cons (ps_set (i := 7) nd rfl (Or.inl rfl) (pe_op op_add pe_int (pe_call (ok__law_draw T) (hr.mono (by decide)) (by rfl) T.g__law_draw T.F__law_draw.kp T.b__law_draw .nil pass0 (pa_cons (pv 0) (pa_cons (pe_call (ok__law_pick T) (hr.mono (by decide)) (by rfl) T.g__law_pick T.F__law_pick.kp T.b__law_pick .nil pass0 (pa_cons (pv 0) (pa_cons (pe_lst (pa_cons pe_int (pa_cons pe_int (pa_cons (pe_op op_pow pe_int pe_int) pa_nil)))) pa_nil))) pa_nil)))))
  (pss_cons (ps_if (pt_cmpR op_lt (pv 6) pe_int (nomark _)) (pss_cons (ps_set (i := 7) nd rfl (Or.inl rfl) (pe_ifExp (pt_cmpR op_eq (pv 6) pe_int (nomark _)) (pe_callB (cr_min2 rfl) (by rfl) T.m_min (by decide +kernel) (pa_cons (pv 7) (pa_cons (pe_dget (hu_of hr) (pv 2) (pv 4) (fun _ _ => rfl)) pa_nil))) (pe_op op_sub (pe_dget (hu_of hr) (pv 2) (pv 4) (fun _ _ => rfl)) (pe_op op_fdiv (pe_dget (hu_of hr) (pv 2) (pv 4) (fun _ _ => rfl)) (pe_op op_add (pv 6) pe_int)))))
  (pss_cons (ps_dput (hu_of hr) (pv 2) (pv 4) (pe_op op_sub (pe_dget (hu_of hr) (pv 2) (pv 4) (fun _ _ => rfl)) (pv 7)) rfl)
  (pss_one (ps_dput (hu_of hr) (pv 2) (pv 5) (pe_op op_add (pe_dget (hu_of hr) (pv 2) (pv 5) (fun _ _ => rfl)) (pv 7)) rfl)))) (pss_one (ps_dput (hu_of hr) (pv 2) (pv 4) (pe_callB (cr_max2 rfl) (by rfl) T.m_max (by decide +kernel) (pa_cons pe_int (pa_cons (pe_op op_add (pe_dget (hu_of hr) (pv 2) (pv 4) (fun _ _ => rfl)) (pe_ix ix_list (pe_lst (pa_cons (pv 7) (pa_cons (pe_op op_sub pe_int (pv 7)) pa_nil))) (pe_call (ok__law_draw T) (hr.mono (by decide)) (by rfl) T.g__law_draw T.F__law_draw.kp T.b__law_draw .nil pass0 (pa_cons (pv 0) (pa_cons pe_int pa_nil))) (fun _ _ => rfl))) pa_nil))) rfl)))
  (pss_one (ps_ret (pv 2)))))))
theorem ok__law_moved (T : Tx K mg) : FnOk P w K mg base CX0 3 T.f__law_moved T.d__law_moved ["_law_state", "_law_need"] (sp__law_moved K) :=
  T.F__law_moved.ok sc__law_moved (fun vs H Q E h => len__law_moved h) (fun cdv A outer s H vs Q E hr h => ⟨t__law_moved K, der__law_moved T hr, rd__law_moved h⟩)
theorem der__law_spread (T : Tx K mg) {cdv : Value} {A : Around} {outer : List Env} {s : Shared} {H : Hp} {E : XK} (hr : Room 2 (A.deeper (envOfC "_law_spread" (defScope s__law_spread) s.heap.objs.size T.f__law_spread cdv))) :
    PSs (cxOf CX0 P w K mg base n__law_spread "_law_spread" (defScope s__law_spread) T.f__law_spread cdv A outer s H E).nox (defBody s__law_spread) (t__law_spread K) :=
  have nd := sc__law_spread.nd
  (pss_cons (ps_par (i := 2) (j := 3) rfl nd rfl rfl (by decide) rfl rfl (pa_cons (pe_callTy cr_dictC (by rfl) T.m_dict (by decide +kernel) (pa_cons (pv 1) pa_nil)) (pa_cons (pe_callB cr_sortedDS (by rfl) T.m_sorted (by decide +kernel) (pa_cons (pv 1) pa_nil)) pa_nil)) (by rfl))
  (pss_cons (ps_set (i := 4) nd rfl (Or.inr rfl) (pe_call (ok__law_pick T) (hr.mono (by decide)) (by rfl) T.g__law_pick T.F__law_pick.kp T.b__law_pick .nil pass0 (pa_cons (pv 0) (pa_cons (pv 3) pa_nil))))
  (pss_cons (ps_par (i := 5) (j := 6) rfl nd rfl rfl (by decide) rfl rfl (pa_cons (pe_lc (own := [("_law_name", 7)]) rfl nd (pi_list (pv 3)) (blkOk_by (own := [("_law_name", 7)]) (N := n__law_spread) (sc := defScope s__law_spread) (by decide +kernel)) (fun _ _ _ _ _ => (pg_name (i := 7) nd rfl (by first | exact Or.inl rfl | exact Or.inr rfl))) (fun _ _ _ _ _ => (pts_one (pt_cmpR op_ne (pv 7) (pv 4) (nomark _)))) (fun _ _ _ _ _ => (pv 7))) (pa_cons (pe_dget (hu_of hr) (pv 2) (pv 4) (fun _ _ => rfl)) pa_nil)) (by rfl))
  (pss_cons (ps_if (PW.pt (pw_or (pt_cmpR (op_eqT hr.units) (pv 5) (pe_lst pa_nil) (nomark _)) (pw_or1 (pt_cmpR op_eq (pe_call (ok__law_draw T) (hr.mono (by decide)) (by rfl) T.g__law_draw T.F__law_draw.kp T.b__law_draw .nil pass0 (pa_cons (pv 0) (pa_cons pe_int pa_nil))) pe_int (nomark _))))) (pss_one (ps_ret (pv 2))) pss_nil)
  (pss_cons (ps_set (i := 6) nd rfl (Or.inl rfl) (pe_op op_sub (pv 6) (pe_call (ok__law_draw T) (hr.mono (by decide)) (by rfl) T.g__law_draw T.F__law_draw.kp T.b__law_draw .nil pass0 (pa_cons (pv 0) (pa_cons pe_int pa_nil)))))
  (pss_cons (ps_dput (hu_of hr) (pv 2) (pv 4) (pe_op op_sub (pe_dget (hu_of hr) (pv 2) (pv 4) (fun _ _ => rfl)) (pv 6)) rfl)
  (pss_cons (ps_for PassesOwn.never rfl (pi_enum rfl T.m_enumerate (pa_cons (pv 5) pa_nil)) (pg_tup rfl (pgs_cons (pg_name (i := 8) nd rfl (by first | exact Or.inl rfl | exact Or.inr rfl)) (pgs_cons (pg_name (i := 7) nd rfl (by first | exact Or.inl rfl | exact Or.inr rfl)) pgs_nil)))
  (pss_one (ps_dput (hu_of hr) (pv 2) (pv 7) (pe_op op_add (pe_dget (hu_of hr) (pv 2) (pv 7) (fun _ _ => rfl)) (pe_op op_fdiv (pe_op op_add (pv 6) (pv 8)) (pe_callB cr_len (by rfl) T.m_len (by decide +kernel) (pa_cons (pv 5) pa_nil)))) rfl)))
  (pss_one (ps_ret (pv 2))))))))))
theorem ok__law_spread (T : Tx K mg) : FnOk P w K mg base CX0 3 T.f__law_spread T.d__law_spread ["_law_state", "_law_need"] (sp__law_spread K) :=
  T.F__law_spread.ok sc__law_spread (fun vs H Q E h => len__law_spread h) (fun cdv A outer s H vs Q E hr h => ⟨t__law_spread K, der__law_spread T hr, rd__law_spread h⟩)
theorem der__law_sets (T : Tx K mg) {cdv : Value} {A : Around} {outer : List Env} {s : Shared} {H : Hp} {E : XK} (hr : Room 0 (A.deeper (envOfC "_law_sets" (defScope s__law_sets) s.heap.objs.size T.f__law_sets cdv))) :
    PSs (cxOf CX0 P w K mg base n__law_sets "_law_sets" (defScope s__law_sets) T.f__law_sets cdv A outer s H E).nox (defBody s__law_sets) (t__law_sets K) :=
  have nd := sc__law_sets.nd
  (pss_cons (ps_set (i := 1) nd rfl (Or.inl rfl) (pe_lst (pa_cons (pe_tup pa_nil) pa_nil)))
  (pss_cons (ps_for PassesOwn.never rfl (pi_list (pv 0)) (pg_name (i := 2) nd rfl (by first | exact Or.inl rfl | exact Or.inr rfl))
  (pss_one (ps_set (i := 1) nd rfl (Or.inl rfl) (pe_op op_cat (pv 1) (pe_lc (own := [("_law_some", 3)]) rfl nd (pi_list (pv 1)) (blkOk_by (own := [("_law_some", 3)]) (N := n__law_sets) (sc := defScope s__law_sets) (by decide +kernel)) (fun _ _ _ _ _ => (pg_name (i := 3) nd rfl (by first | exact Or.inl rfl | exact Or.inr rfl))) (fun _ _ _ _ _ => pts_nil) (fun _ _ _ _ _ => (pe_op op_catA (pv 3) (pe_tup (pa_cons (pv 2) pa_nil)))))))))
  (pss_one (ps_ret (pv 1)))))
theorem ok__law_sets (T : Tx K mg) : FnOk P w K mg base CX0 1 T.f__law_sets T.d__law_sets ["_law_names_here"] (sp__law_sets K) :=
  T.F__law_sets.ok sc__law_sets (fun vs H Q E h => len__law_sets h) (fun cdv A outer s H vs Q E hr h => ⟨t__law_sets K, der__law_sets T hr, rd__law_sets h⟩)
theorem der__law_is_sum (T : Tx K mg) (TB : ∀ x, x ∈ (["_law_is_sum"] : List Str) → LamX.TabB base mg (tabC K x) (tabP K x)) {A : Around} {outer : List Env} {s : Shared} {H : Hp} {E : XK} (hr : Room 2 (A.deeper (envOfC "_law_is_sum" (defScope s__law_is_sum) s.heap.objs.size T.f__law_is_sum (.ref (tabC K "_law_is_sum"))))) :
    PSs (cxOf CX0 P w K mg base n__law_is_sum "_law_is_sum" (defScope s__law_is_sum) T.f__law_is_sum (.ref (tabC K "_law_is_sum")) A outer s H E).nox (defBody s__law_is_sum) (t__law_is_sum K) :=
  have nd := sc__law_is_sum.nd
  (pss_cons (ps_if (pt_cmpR op_ne (pe_callB (cr_sumV rfl) (by rfl) T.m_sum (by decide +kernel) (pa_cons (pe_vals (pv 1)) pa_nil)) (pe_callB (cr_sum rfl) (by rfl) T.m_sum (by decide +kernel) (pa_cons (pe_lock (pe_lc (own := [("_law_size", 2), ("_law_times", 3)]) rfl nd (pi_items (pv 0)) (blkOk_by (own := [("_law_size", 2), ("_law_times", 3)]) (N := n__law_is_sum) (sc := defScope s__law_is_sum) (by decide +kernel)) (fun _ _ _ _ _ => (pg_tup rfl (pgs_cons (pg_name (i := 2) nd rfl (by first | exact Or.inl rfl | exact Or.inr rfl)) (pgs_cons (pg_name (i := 3) nd rfl (by first | exact Or.inl rfl | exact Or.inr rfl)) pgs_nil)))) (fun _ _ _ _ _ => pts_nil) (fun _ _ _ _ _ => (pe_op op_mul (pv 2) (pv 3))))) pa_nil)) (nomark _)) (pss_one (ps_ret pe_bl)) pss_nil)
  (pss_cons (ps_set (i := 4) nd rfl (Or.inr rfl) (SK.pe_sortK (k := 0) (i := 5) (by rfl) T.m_sorted (pa_cons (pe_lock (pe_lc (own := [("_law_name", 5)]) rfl nd (pi_keys (pv 1)) (blkOk_by (own := [("_law_name", 5)]) (N := n__law_is_sum) (sc := defScope s__law_is_sum) (by decide +kernel)) (fun _ _ _ _ _ => (pg_name (i := 5) nd rfl (by first | exact Or.inl rfl | exact Or.inr rfl))) (fun _ _ _ _ _ => (pts_one (pt_cmpR op_gt (pe_dget (hu_of hr) (pv 1) (pv 5) (fun _ _ => rfl)) pe_int (nomark _)))) (fun _ _ _ _ _ => (pv 5)))) pa_nil) (TB "_law_is_sum" (by decide)) rfl (hr.mono (by decide)) (SK.lamP_by (sc := defScope s__law_is_sum) (by decide +kernel)) rfl (fun _ _ _ _ _ _ => rfl) (fun A outer s H E f d hr => (pe_op op_sub pe_int (pe_dget (hu_of hr) (pv 1) (pv 5) (fun _ _ => rfl)))) rfl nd))
  (pss_cons (ps_set (i := 6) nd rfl (Or.inl rfl) (pe_ifExp (pt_cmpR op_lt (pe_callB cr_len (by rfl) T.m_len (by decide +kernel) (pa_cons (pv 4) pa_nil)) pe_int (nomark _)) (pe_call (ok__law_sets T) (hr.mono (by decide)) (by rfl) T.g__law_sets T.F__law_sets.kp T.b__law_sets .nil pass0 (pa_cons (pv 4) pa_nil)) (pe_lc (own := [("_law_j", 7)]) rfl nd (pi_range1 rfl T.m_range (pa_cons (pe_op op_add (pe_callB cr_len (by rfl) T.m_len (by decide +kernel) (pa_cons (pv 4) pa_nil)) pe_int) pa_nil)) (blkOk_by (own := [("_law_j", 7)]) (N := n__law_is_sum) (sc := defScope s__law_is_sum) (by decide +kernel)) (fun _ _ _ _ _ => (pg_name (i := 7) nd rfl (by first | exact Or.inl rfl | exact Or.inr rfl))) (fun _ _ _ _ _ => pts_nil) (fun _ _ _ _ _ => (pe_slice sl_list (pv 4) po_none (po_some (pv 7)))))))
  (pss_cons (ps_for PassesOwn.never rfl (pi_list (pv 6)) (pg_name (i := 8) nd rfl (by first | exact Or.inl rfl | exact Or.inr rfl))
  (pss_one (ps_if (pt_cmpR op_gt (pe_callB (cr_sum rfl) (by rfl) T.m_sum (by decide +kernel) (pa_cons (pe_lc (own := [("_law_name", 5)]) rfl nd (BY.pi_seq (pv 8)) (blkOk_by (own := [("_law_name", 5)]) (N := n__law_is_sum) (sc := defScope s__law_is_sum) (by decide +kernel)) (fun _ _ _ _ _ => (pg_name (i := 5) nd rfl (by first | exact Or.inl rfl | exact Or.inr rfl))) (fun _ _ _ _ _ => pts_nil) (fun _ _ _ _ _ => (pe_dget (hu_of hr) (pv 1) (pv 5) (fun _ _ => rfl)))) pa_nil)) (pe_callB (cr_sum rfl) (by rfl) T.m_sum (by decide +kernel) (pa_cons (pe_lock (pe_lc (own := [("_law_size", 2), ("_law_n", 9)]) rfl nd (pi_items (pv 0)) (blkOk_by (own := [("_law_size", 2), ("_law_n", 9)]) (N := n__law_is_sum) (sc := defScope s__law_is_sum) (by decide +kernel)) (fun _ _ _ _ _ => (pg_tup rfl (pgs_cons (pg_name (i := 2) nd rfl (by first | exact Or.inl rfl | exact Or.inr rfl)) (pgs_cons (pg_name (i := 9) nd rfl (by first | exact Or.inl rfl | exact Or.inr rfl)) pgs_nil)))) (fun _ _ _ _ _ => pts_nil) (fun _ _ _ _ _ => (pe_op op_mul (pv 9) (pe_callB (cr_min2 rfl) (by rfl) T.m_min (by decide +kernel) (pa_cons (pv 2) (pa_cons (pe_callB cr_len (by rfl) T.m_len (by decide +kernel) (pa_cons (pv 8) pa_nil)) pa_nil))))))) pa_nil)) (nomark _)) (pss_one (ps_ret pe_bl)) pss_nil)))
  (pss_one (ps_ret pe_bl))))))
theorem ok__law_is_sum (T : Tx K mg) (TB : ∀ x, x ∈ (["_law_is_sum"] : List Str) → LamX.TabB base mg (tabC K x) (tabP K x)) : FnOk P w K mg base CX0 3 T.f__law_is_sum T.d__law_is_sum ["_law_lots", "_law_need"] (sp__law_is_sum K) :=
  T.F__law_is_sum.okC sc__law_is_sum (fun vs H Q E h => len__law_is_sum h) (fun A outer s H vs Q E hr h => ⟨t__law_is_sum K, der__law_is_sum T TB hr, rd__law_is_sum h⟩)
theorem der__law_refused (T : Tx K mg) {cdv : Value} {A : Around} {outer : List Env} {s : Shared} {H : Hp} {E : XK} (hr : Room 3 (A.deeper (envOfC "_law_refused" (defScope s__law_refused) s.heap.objs.size T.f__law_refused cdv))) :
    PSs (cxOf CX0 P w K mg base n__law_refused "_law_refused" (defScope s__law_refused) T.f__law_refused cdv A outer s H E).nox (defBody s__law_refused) (t__law_refused K) :=
  have nd := sc__law_refused.nd
  (pss_cons (ps_set (i := 2) nd rfl (Or.inl rfl) pe_non)
  (pss_cons (BX.ps_try_asK (i := 3) (tb := fun W => (tDrop (tCallS (sp_heaps K) (WE W) (tCons (tVar 0) (tCons (tVar 1) tNil))))) (ts := fun a cls d => (tAsg (tVar 3) (gName 2))) (Wout := fun _ _ _ _ => False) rfl rfl nd rfl rfl ⟨by rfl, by decide, Or.inl T.g_LeftError⟩ takes0 (fun W pn xe tk _ => (pss_one (ps_expr (pe_callS (ok_heaps T) (hr.mono (by decide)) (by rfl) T.g_heaps T.F_heaps.kp T.b_heaps (fun σ => passAt tk σ) (pa_cons (pv 0) (pa_cons (pv 1) pa_nil)))))) (fun a oe cls d pn hz hf => (pss_one (ps_set (i := 2) nd rfl (Or.inl rfl) (pv 3)))) rfl)
  (pss_one (ps_ret (pe_and (pe_callB BX.call_isK (by rfl) T.m_isinstance (by decide +kernel) (pa_cons (pv 2) (pa_cons (pe_glob (by rfl) T.g_NoSum rfl) pa_nil))) (pe_and (pe_callB BX.call_isK (by rfl) T.m_isinstance (by decide +kernel) (pa_cons (pv 2) (pa_cons (pe_bltn (by rfl) T.m_ValueError (by decide +kernel) rfl) pa_nil))) (pe_one (pe_not (pe_callB call_isKT (by rfl) T.m_isinstance (by decide +kernel) (pa_cons (pv 2) (pa_cons (pe_tup (pa_cons (pe_glob (by rfl) T.g_NoPast rfl) (pa_cons (pe_glob (by rfl) T.g_NoTally rfl) pa_nil))) pa_nil)))))))))))
theorem ok__law_refused (T : Tx K mg) : FnOk P w K mg base CX0 4 T.f__law_refused T.d__law_refused ["_law_lots", "_law_need"] (sp__law_refused K) :=
  T.F__law_refused.ok sc__law_refused (fun vs H Q E h => len__law_refused h) (fun cdv A outer s H vs Q E hr h => ⟨t__law_refused K, der__law_refused T hr, rd__law_refused T.rf_NoSum h⟩)
theorem der__law_row_right (T : Tx K mg) {cdv : Value} {A : Around} {outer : List Env} {s : Shared} {H : Hp} {E : XK} (hr : Room 0 (A.deeper (envOfC "_law_row_right" (defScope s__law_row_right) s.heap.objs.size T.f__law_row_right cdv))) :
    PSs (cxOf CX0 P w K mg base n__law_row_right "_law_row_right" (defScope s__law_row_right) T.f__law_row_right cdv A outer s H E).nox (defBody s__law_row_right) (t__law_row_right K) :=
  have nd := sc__law_row_right.nd
  (pss_cons (ps_if (PW.pt (pw_or (pt_not (pt_val (pe_callB call_isi (by rfl) T.m_isinstance (by decide +kernel) (pa_cons (pv 0) (pa_cons (pe_bltn (by rfl) T.m_tuple (by decide +kernel) rfl) pa_nil))))) (pw_or (pt_cmpR op_ne (pe_callB cr_len (by rfl) T.m_len (by decide +kernel) (pa_cons (pv 0) pa_nil)) pe_int (nomark _)) (pw_or (pt_not (pt_val (pe_callB call_isi (by rfl) T.m_isinstance (by decide +kernel) (pa_cons (pe_ix ix_tup (pv 0) pe_int (fun _ _ => rfl)) (pa_cons (pe_bltn (by rfl) T.m_tuple (by decide +kernel) rfl) pa_nil))))) (pw_or1 (pt_cmpR (op_eqT hr.units) (pe_ix ix_tup (pv 0) pe_int (fun _ _ => rfl)) (pe_tup pa_nil) (nomark _))))))) (pss_one (ps_ret pe_bl)) pss_nil)
  (pss_cons (ps_if (pt_cmpR (op_neT hr.units) (pe_callTy cr_listO (by rfl) T.m_list (by decide +kernel) (pa_cons (pe_ix ix_tup (pv 0) pe_int (fun _ _ => rfl)) pa_nil)) (pe_lc (own := [("_law_name", 2)]) rfl nd (pi_list (pe_callB cr_sortedS (by rfl) T.m_sorted (by decide +kernel) (pa_cons (pv 1) pa_nil))) (blkOk_by (own := [("_law_name", 2)]) (N := n__law_row_right) (sc := defScope s__law_row_right) (by decide +kernel)) (fun _ _ _ _ _ => (pg_name (i := 2) nd rfl (by first | exact Or.inl rfl | exact Or.inr rfl))) (fun _ _ _ _ _ => (pts_one (pt_cmpR (op_inTT hr.units) (pv 2) (pe_ix ix_tup (pv 0) pe_int (fun _ _ => rfl)) rfl))) (fun _ _ _ _ _ => (pv 2))) (nomark _)) (pss_one (ps_ret pe_bl)) pss_nil)
  (pss_one (ps_ret (pe_and (pe_callB call_isi (by rfl) T.m_isinstance (by decide +kernel) (pa_cons (pe_ix ix_tup (pv 0) pe_int (fun _ _ => rfl)) (pa_cons (pe_bltn (by rfl) T.m_int (by decide +kernel) rfl) pa_nil))) (pe_and (pe_not (pe_callB call_isi (by rfl) T.m_isinstance (by decide +kernel) (pa_cons (pe_ix ix_tup (pv 0) pe_int (fun _ _ => rfl)) (pa_cons (pe_bltn (by rfl) T.m_bool (by decide +kernel) rfl) pa_nil)))) (pe_one (pe_cmpR op_gt (pe_ix ix_tup (pv 0) pe_int (fun _ _ => rfl)) pe_int (nomark _)))))))))
theorem ok__law_row_right (T : Tx K mg) : FnOk P w K mg base CX0 1 T.f__law_row_right T.d__law_row_right ["_law_row", "_law_names_here"] (sp__law_row_right K) :=
  T.F__law_row_right.ok sc__law_row_right (fun vs H Q E h => len__law_row_right h) (fun cdv A outer s H vs Q E hr h => ⟨t__law_row_right K, der__law_row_right T hr, rd__law_row_right h⟩)
theorem der__law_heaps_right (T : Tx K mg) {cdv : Value} {A : Around} {outer : List Env} {s : Shared} {H : Hp} {E : XK} (hgd : A.guards = some []) (hr : Room 3 (A.deeper (envOfC "_law_heaps_right" (defScope s__law_heaps_right) s.heap.objs.size T.f__law_heaps_right cdv))) :
    PSs (cxOf CX0 P w K mg base n__law_heaps_right "_law_heaps_right" (defScope s__law_heaps_right) T.f__law_heaps_right cdv A outer s H E).nox (defBody s__law_heaps_right) (t__law_heaps_right K) :=
  have nd := sc__law_heaps_right.nd
  (pss_cons (ps_asg (pe_tup (pa_cons (pe_call (ok_heaps T) (hr.mono (by decide)) (by rfl) T.g_heaps T.F_heaps.kp T.b_heaps .nil passL (pa_cons (pv 0) (pa_cons (pv 1) pa_nil))) (pa_cons (pe_callB cr_sortedDS (by rfl) T.m_sorted (by decide +kernel) (pa_cons (pv 1) pa_nil)) pa_nil))) (pg_tup rfl (pgs_cons (pg_name (i := 2) nd rfl (by first | exact Or.inl rfl | exact Or.inr rfl)) (pgs_cons (pg_name (i := 3) nd rfl (by first | exact Or.inl rfl | exact Or.inr rfl)) pgs_nil))))
  (pss_cons (ps_if (pt_cmpR op_ne (pe_callB (cr_repr hgd hr.units) (by rfl) T.m_repr (by decide +kernel) (pa_cons (pe_callKw (ok_heaps T) (hr.mono (by decide)) (by rfl) T.g_heaps T.F_heaps.kp T.kb_heaps_wanted_sizes passL (pk_cons (pe_callTy cr_dictC (by rfl) T.m_dict (by decide +kernel) (pa_cons (pv 1) pa_nil)) (pk_cons (pe_callTy cr_dictC (by rfl) T.m_dict (by decide +kernel) (pa_cons (pv 0) pa_nil)) pk_nil))) pa_nil)) (pe_callB (cr_repr hgd hr.units) (by rfl) T.m_repr (by decide +kernel) (pa_cons (pv 2) pa_nil)) (nomark _)) (pss_one (ps_ret pe_bl)) pss_nil)
  (pss_cons (ps_if (PW.pt (pw_or (pt_not (pt_val (pe_callB call_isi (by rfl) T.m_isinstance (by decide +kernel) (pa_cons (pv 2) (pa_cons (pe_bltn (by rfl) T.m_list (by decide +kernel) rfl) pa_nil))))) (pw_or1 (pt_cmpR (op_neT hr.units) (pe_lc (own := [("_law_row", 4)]) rfl nd (pi_list (pv 2)) (blkOk_by (own := [("_law_row", 4)]) (N := n__law_heaps_right) (sc := defScope s__law_heaps_right) (by decide +kernel)) (fun _ _ _ _ _ => (pg_name (i := 4) nd rfl (by first | exact Or.inl rfl | exact Or.inr rfl))) (fun _ _ _ _ _ => (pts_one (pt_not (pt_val (pe_call (ok__law_row_right T) (hr.mono (by decide)) (by rfl) T.g__law_row_right T.F__law_row_right.kp T.b__law_row_right .nil pass0 (pa_cons (pv 4) (pa_cons (pv 3) pa_nil))))))) (fun _ _ _ _ _ => (pv 4))) (pe_lst pa_nil) (nomark _))))) (pss_one (ps_ret pe_bl)) pss_nil)
  (pss_cons (ps_set (i := 5) nd rfl (Or.inr rfl) (pe_lc (own := [("_law_row", 4)]) rfl nd (pi_list (pv 2)) (blkOk_by (own := [("_law_row", 4)]) (N := n__law_heaps_right) (sc := defScope s__law_heaps_right) (by decide +kernel)) (fun _ _ _ _ _ => (pg_name (i := 4) nd rfl (by first | exact Or.inl rfl | exact Or.inr rfl))) (fun _ _ _ _ _ => pts_nil) (fun _ _ _ _ _ => (pe_callB cr_len (by rfl) T.m_len (by decide +kernel) (pa_cons (pe_ix ix_tup (pv 4) pe_int (fun _ _ => rfl)) pa_nil)))))
  (pss_cons (ps_if (PW.pt (pw_or (pt_cmpR (op_neT hr.units) (pv 5) (pe_revL (pe_callB cr_sortedI (by rfl) T.m_sorted (by decide +kernel) (pa_cons (pv 5) pa_nil))) (nomark _)) (pw_or1 (pt_cmpR (op_neT hr.units) (pe_lc (own := [("_law_size", 6)]) rfl nd (pi_list (pv 5)) (blkOk_by (own := [("_law_size", 6)]) (N := n__law_heaps_right) (sc := defScope s__law_heaps_right) (by decide +kernel)) (fun _ _ _ _ _ => (pg_name (i := 6) nd rfl (by first | exact Or.inl rfl | exact Or.inr rfl))) (fun _ _ _ _ _ => (pts_one (pt_cmpR op_gt (pe_bm PySem.F.plainAttrs_list PySem.F.slot_list_count PySem.F.type_list_count mt_countF (pv 5) (pa_cons (pv 6) pa_nil)) pe_int (nomark _)))) (fun _ _ _ _ _ => (pv 6))) (pe_lst pa_nil) (nomark _))))) (pss_one (ps_ret pe_bl)) pss_nil)
  (pss_cons (ps_for PassesOwn.never rfl (pi_range2 rfl T.m_range (pa_cons pe_int (pa_cons pe_int pa_nil))) (pg_name (i := 6) nd rfl (by first | exact Or.inl rfl | exact Or.inr rfl))
  (pss_one (ps_if (pt_cmpR op_ne (pe_callB (cr_sum rfl) (by rfl) T.m_sum (by decide +kernel) (pa_cons (pe_lc (own := [("_law_some", 7), ("_law_times", 8)]) rfl nd (pi_list (pv 2)) (blkOk_by (own := [("_law_some", 7), ("_law_times", 8)]) (N := n__law_heaps_right) (sc := defScope s__law_heaps_right) (by decide +kernel)) (fun _ _ _ _ _ => (pg_tup rfl (pgs_cons (pg_name (i := 7) nd rfl (by first | exact Or.inl rfl | exact Or.inr rfl)) (pgs_cons (pg_name (i := 8) nd rfl (by first | exact Or.inl rfl | exact Or.inr rfl)) pgs_nil)))) (fun _ _ _ _ _ => (pts_one (pt_cmpR op_eq (pe_callB cr_len (by rfl) T.m_len (by decide +kernel) (pa_cons (pv 7) pa_nil)) (pv 6) (nomark _)))) (fun _ _ _ _ _ => (pv 8))) pa_nil)) (pe_dget2 (hu_of hr) (pv 0) (pv 6) pe_int ⟨rfl, rfl, rfl, rfl⟩) (nomark _)) (pss_one (ps_ret pe_bl)) pss_nil)))
  (pss_one (ps_ret (pe_callB (cr_all rfl) (by rfl) T.m_all (by decide +kernel) (pa_cons (pe_lc (own := [("_law_name", 9)]) rfl nd (pi_list (pv 3)) (blkOk_by (own := [("_law_name", 9)]) (N := n__law_heaps_right) (sc := defScope s__law_heaps_right) (by decide +kernel)) (fun _ _ _ _ _ => (pg_name (i := 9) nd rfl (by first | exact Or.inl rfl | exact Or.inr rfl))) (fun _ _ _ _ _ => pts_nil) (fun _ _ _ _ _ => (pe_cmpR op_eq (pe_callB (cr_sum rfl) (by rfl) T.m_sum (by decide +kernel) (pa_cons (pe_lc (own := [("_law_some", 7), ("_law_times", 8)]) rfl nd (pi_list (pv 2)) (blkOk_in rfl rfl (own := [("_law_some", 7), ("_law_times", 8)]) (N := n__law_heaps_right) (sc := defScope s__law_heaps_right) (by decide +kernel)) (fun _ _ _ _ _ => (pg_tup rfl (pgs_cons (pg_name (i := 7) nd rfl (by first | exact Or.inl rfl | exact Or.inr rfl)) (pgs_cons (pg_name (i := 8) nd rfl (by first | exact Or.inl rfl | exact Or.inr rfl)) pgs_nil)))) (fun _ _ _ _ _ => (pts_one (pt_cmpR (op_inTT hr.units) (pv 9) (pv 7) rfl))) (fun _ _ _ _ _ => (pv 8))) pa_nil)) (pe_dget (hu_of hr) (pv 1) (pv 9) (fun _ _ => rfl)) (nomark _)))) pa_nil))))))))))
theorem ok__law_heaps_right (T : Tx K mg) : FnG P w K mg base 4 T.f__law_heaps_right T.d__law_heaps_right ["_law_lots", "_law_need"] (sp__law_heaps_right K) :=
  okG T.F__law_heaps_right sc__law_heaps_right (fun vs H Q E h => len__law_heaps_right h) (fun cdv A hgd outer s H vs Q E hr h => ⟨t__law_heaps_right K, der__law_heaps_right T hgd hr, rd__law_heaps_right h⟩)
theorem der_law (T : Tx K mg) (TB : ∀ x, x ∈ (["_law_is_sum"] : List Str) → LamX.TabB base mg (tabC K x) (tabP K x)) {cdv : Value} {A : Around} {outer : List Env} {s : Shared} {H : Hp} {E : XK} (hgd : A.guards = some []) (hr : Room 4 (A.deeper (envOfC "law" (defScope s_law) s.heap.objs.size T.f_law cdv))) :
    PSs (cxOf CX0 P w K mg base n_law "law" (defScope s_law) T.f_law cdv A outer s H E).nox (defBody s_law) (t_law K) :=
  have nd := sc_law.nd
  (pss_cons (ps_set (i := 1) nd rfl (Or.inl rfl) (pe_call (ok__law_begun T) (hr.mono (by decide)) (by rfl) T.g__law_begun T.F__law_begun.kp T.b__law_begun .nil pass0 (pa_cons (pv 0) pa_nil)))
  (pss_cons (ps_for PassesOwn.never rfl (pi_range1 rfl T.m_range (pa_cons pe_int pa_nil)) (pg_name (i := 2) nd rfl (by first | exact Or.inl rfl | exact Or.inr rfl))
  (pss_cons (ps_set (i := 3) nd rfl (Or.inl rfl) (pe_call (ok__law_names T) (hr.mono (by decide)) (by rfl) T.g__law_names T.F__law_names.kp T.b__law_names .nil pass0 (pa_cons (pv 1) (pa_cons (pe_op op_add pe_int (pe_call (ok__law_draw T) (hr.mono (by decide)) (by rfl) T.g__law_draw T.F__law_draw.kp T.b__law_draw .nil pass0 (pa_cons (pv 1) (pa_cons pe_int pa_nil)))) pa_nil))))
  (pss_cons (ps_asg (pe_call (ok__law_dealt T) (hr.mono (by decide)) (by rfl) T.g__law_dealt T.F__law_dealt.kp T.b__law_dealt .nil pass0 (pa_cons (pv 1) (pa_cons (pv 3) pa_nil))) (pg_tup rfl (pgs_cons (pg_name (i := 4) nd rfl (by first | exact Or.inl rfl | exact Or.inr rfl)) (pgs_cons (pg_name (i := 5) nd rfl (by first | exact Or.inl rfl | exact Or.inr rfl)) pgs_nil))))
  (pss_cons (ps_set (i := 6) nd rfl (Or.inl rfl) pe_bl)
  (pss_cons (ps_if (pt_cmpR op_eq (pe_call (ok__law_draw T) (hr.mono (by decide)) (by rfl) T.g__law_draw T.F__law_draw.kp T.b__law_draw .nil pass0 (pa_cons (pv 1) (pa_cons pe_int pa_nil))) pe_int (nomark _)) (pss_cons (ps_set (i := 3) nd rfl (Or.inl rfl) (pe_slice sl_list (pv 3) po_none (po_some (pe_call (ok__law_pick T) (hr.mono (by decide)) (by rfl) T.g__law_pick T.F__law_pick.kp T.b__law_pick .nil pass0 (pa_cons (pv 1) (pa_cons (pe_lst (pa_cons pe_int (pa_cons pe_int (pa_cons pe_int pa_nil)))) pa_nil))))))
  (pss_cons (ps_asg (pe_call (ok__law_dealt T) (hr.mono (by decide)) (by rfl) T.g__law_dealt T.F__law_dealt.kp T.b__law_dealt .nil pass0 (pa_cons (pv 1) (pa_cons (pv 3) pa_nil))) (pg_tup rfl (pgs_cons (pg_name (i := 4) nd rfl (by first | exact Or.inl rfl | exact Or.inr rfl)) (pgs_cons (pg_name (i := 5) nd rfl (by first | exact Or.inl rfl | exact Or.inr rfl)) pgs_nil))))
  (pss_cons (ps_if (pt_cmpR op_eq (pe_call (ok__law_draw T) (hr.mono (by decide)) (by rfl) T.g__law_draw T.F__law_draw.kp T.b__law_draw .nil pass0 (pa_cons (pv 1) (pa_cons pe_int pa_nil))) pe_int (nomark _)) (pss_cons (ps_dput (hu_of hr) (pv 4) (pe_callB cr_len (by rfl) T.m_len (by decide +kernel) (pa_cons (pv 3) pa_nil)) (pe_op op_add (pe_dget2 (hu_of hr) (pv 4) (pe_callB cr_len (by rfl) T.m_len (by decide +kernel) (pa_cons (pv 3) pa_nil)) pe_int ⟨rfl, rfl, rfl, rfl⟩) pe_int) rfl)
  (pss_one (ps_set (i := 5) nd rfl (Or.inr rfl) (pe_call (ok__law_spread T) (hr.mono (by decide)) (by rfl) T.g__law_spread T.F__law_spread.kp T.b__law_spread .nil pass0 (pa_cons (pv 1) (pa_cons (pe_callTy (call_dictP rfl) (by rfl) T.m_dict (by decide +kernel) (pa_cons (pe_lc (own := [("_law_name", 7)]) rfl nd (pi_list (pv 3)) (blkOk_by (own := [("_law_name", 7)]) (N := n_law) (sc := defScope s_law) (by decide +kernel)) (fun _ _ _ _ _ => (pg_name (i := 7) nd rfl (by first | exact Or.inl rfl | exact Or.inr rfl))) (fun _ _ _ _ _ => pts_nil) (fun _ _ _ _ _ => (pe_tup (pa_cons (pv 7) (pa_cons (pe_op op_add (pe_dget (hu_of hr) (pv 5) (pv 7) (fun _ _ => rfl)) pe_int) pa_nil))))) pa_nil)) pa_nil)))))) (pss_one (ps_set (i := 5) nd rfl (Or.inr rfl) (pe_call (ok__law_moved T) (hr.mono (by decide)) (by rfl) T.g__law_moved T.F__law_moved.kp T.b__law_moved .nil pass0 (pa_cons (pv 1) (pa_cons (pv 5) pa_nil))))))
  (pss_one (ps_set (i := 6) nd rfl (Or.inl rfl) (pe_call (ok__law_is_sum T TB) (hr.mono (by decide)) (by rfl) T.g__law_is_sum T.F__law_is_sum.kp T.b__law_is_sum .nil pass0 (pa_cons (pv 4) (pa_cons (pv 5) pa_nil)))))))) pss_nil)
  (pss_cons (ps_set (i := 8) nd rfl (Or.inl rfl) (pe_tup (pa_cons (pe_callTy cr_dictC (by rfl) T.m_dict (by decide +kernel) (pa_cons (pv 4) pa_nil)) (pa_cons (pe_callTy cr_dictC (by rfl) T.m_dict (by decide +kernel) (pa_cons (pv 5) pa_nil)) pa_nil))))
  (pss_cons (ps_if (PW.pt (pw_or (pt_cmpR op_ne (pe_call (ok_holds T) (hr.mono (by decide)) (by rfl) T.g_holds T.F_holds.kp T.b_holds .nil pass0 (pa_cons (pv 4) (pa_cons (pv 5) pa_nil))) (pv 6) (nomark _)) (pw_or1 (pt_not (pt_val (pe_callB call_isi (by rfl) T.m_isinstance (by decide +kernel) (pa_cons (pe_callKw (ok_holds T) (hr.mono (by decide)) (by rfl) T.g_holds T.F_holds.kp T.kb_holds_wanted_sizes pass0 (pk_cons (pv 5) (pk_cons (pv 4) pk_nil))) (pa_cons (pe_bltn (by rfl) T.m_bool (by decide +kernel) rfl) pa_nil)))))))) (pss_one (ps_ret pe_bl)) pss_nil)
  (pss_cons (ps_if (pt_not (pt_ifExp (pt_val (pv 6)) (pt_val (pe_callG (ok__law_heaps_right T) hgd (hr.mono (by decide)) (by rfl) T.g__law_heaps_right T.F__law_heaps_right.kp T.b__law_heaps_right pass0 (pa_cons (pv 4) (pa_cons (pv 5) pa_nil)))) (pt_val (pe_call (ok__law_refused T) (hr.mono (by decide)) (by rfl) T.g__law_refused T.F__law_refused.kp T.b__law_refused .nil pass0 (pa_cons (pv 4) (pa_cons (pv 5) pa_nil)))))) (pss_one (ps_ret pe_bl)) pss_nil)
  (pss_one (ps_if (pt_cmpR (op_neTQ hr.units) (pe_tup (pa_cons (pv 4) (pa_cons (pv 5) pa_nil))) (pv 8) (nomark _)) (pss_one (ps_ret pe_bl)) pss_nil))))))))))
  (pss_one (ps_ret (pe_chain (op_eqT hr.units) (op_eqT hr.units) (pe_call (ok_heaps T) (hr.mono (by decide)) (by rfl) T.g_heaps T.F_heaps.kp T.b_heaps .nil passL (pa_cons pe_dnewK (pa_cons pe_dnewK pa_nil))) (pe_lst pa_nil) (pe_call (ok_heaps T) (hr.mono (by decide)) (by rfl) T.g_heaps T.F_heaps.kp T.b_heaps .nil passL (pa_cons (pe_disp (pps_cons pe_int pe_int (pps_cons pe_int pe_int pps_nil)) (by rfl) (by rfl) (fun z => by cases z) (by decide)) (pa_cons pe_dnewK pa_nil))))))))
theorem ok_law (T : Tx K mg) (TB : ∀ x, x ∈ (["_law_is_sum"] : List Str) → LamX.TabB base mg (tabC K x) (tabP K x)) : FnG P w K mg base 5 T.f_law T.d_law ["_law_script"] (sp_law K) :=
  okG T.F_law sc_law (fun vs H Q E h => len_law h) (fun cdv A hgd outer s H vs Q E hr h => ⟨t_law K, der_law T TB hgd hr, rd_law h⟩)

end

theorem all_mk {l : PySem.W.OpenLaw} {w : World} {K : Fg} {h : Heap} {mg : Str → Option Value} {fa c_LeftError c_NoPast c_NoSum c_NoTally f_reach f_holds f_above f_share f_laid f_heaps f__law_begun f__law_draw f__law_pick f__law_names f__law_dealt f__law_moved f__law_spread f__law_sets f__law_is_sum cc__law_is_sum pp__law_is_sum f__law_refused f__law_row_right f__law_heaps_right f_law : Addr} (X : K.In h) (G : h.Ns mainGlobals mg) (hfa : mg "law" = some (.ref fa))
     {od_reach an_reach od_holds an_holds od_above an_above od_share an_share od_laid an_laid od_heaps an_heaps od__law_begun an__law_begun od__law_draw an__law_draw od__law_pick an__law_pick od__law_names an__law_names od__law_dealt an__law_dealt od__law_moved an__law_moved od__law_spread an__law_spread od__law_sets an__law_sets od__law_is_sum an__law_is_sum oe__law_is_sum od__law_refused an__law_refused od__law_row_right an__law_row_right od__law_heaps_right an__law_heaps_right od_law an_law : Option Addr} {sl_reach sl_holds sl_above sl_share sl_laid sl_heaps sl__law_begun sl__law_draw sl__law_pick sl__law_names sl__law_dealt sl__law_moved sl__law_spread sl__law_sets sl__law_is_sum sv__law_is_sum sl__law_refused sl__law_row_right sl__law_heaps_right sl_law : Array (Option Value)} {oc_reach kV_reach dc_reach pm_reach cd_reach ct_reach oc_holds kV_holds dc_holds pm_holds cd_holds ct_holds oc_above kV_above dc_above pm_above cd_above ct_above oc_share kV_share dc_share pm_share cd_share ct_share oc_laid kV_laid dc_laid pm_laid cd_laid ct_laid oc_heaps kV_heaps dc_heaps pm_heaps cd_heaps ct_heaps oc__law_begun kV__law_begun dc__law_begun pm__law_begun cd__law_begun ct__law_begun oc__law_draw kV__law_draw dc__law_draw pm__law_draw cd__law_draw ct__law_draw oc__law_pick kV__law_pick dc__law_pick pm__law_pick cd__law_pick ct__law_pick oc__law_names kV__law_names dc__law_names pm__law_names cd__law_names ct__law_names oc__law_dealt kV__law_dealt dc__law_dealt pm__law_dealt cd__law_dealt ct__law_dealt oc__law_moved kV__law_moved dc__law_moved pm__law_moved cd__law_moved ct__law_moved oc__law_spread kV__law_spread dc__law_spread pm__law_spread cd__law_spread ct__law_spread oc__law_sets kV__law_sets dc__law_sets pm__law_sets cd__law_sets ct__law_sets oc__law_is_sum kV__law_is_sum dc__law_is_sum pm__law_is_sum ct__law_is_sum oo__law_is_sum oc__law_refused kV__law_refused dc__law_refused pm__law_refused cd__law_refused ct__law_refused oc__law_row_right kV__law_row_right dc__law_row_right pm__law_row_right cd__law_row_right ct__law_row_right oc__law_heaps_right kV__law_heaps_right dc__law_heaps_right pm__law_heaps_right cd__law_heaps_right ct__law_heaps_right oc_law kV_law dc_law pm_law cd_law ct_law : Value} {vv__law_is_sum : Array Value}
    (z_sum : PySem.W.nsIn K mainGlobals "sum" = some none)
    (z_min : PySem.W.nsIn K mainGlobals "min" = some none)
    (z_sorted : PySem.W.nsIn K mainGlobals "sorted" = some none)
    (z_enumerate : PySem.W.nsIn K mainGlobals "enumerate" = some none)
    (z_max : PySem.W.nsIn K mainGlobals "max" = some none)
    (z_set : PySem.W.nsIn K mainGlobals "set" = some none)
    (z_list : PySem.W.nsIn K mainGlobals "list" = some none)
    (z_zip : PySem.W.nsIn K mainGlobals "zip" = some none)
    (z_tuple : PySem.W.nsIn K mainGlobals "tuple" = some none)
    (z_dict : PySem.W.nsIn K mainGlobals "dict" = some none)
    (z_abs : PySem.W.nsIn K mainGlobals "abs" = some none)
    (z_len : PySem.W.nsIn K mainGlobals "len" = some none)
    (z_range : PySem.W.nsIn K mainGlobals "range" = some none)
    (z_isinstance : PySem.W.nsIn K mainGlobals "isinstance" = some none)
    (z_ValueError : PySem.W.nsIn K mainGlobals "ValueError" = some none)
    (z_int : PySem.W.nsIn K mainGlobals "int" = some none)
    (z_bool : PySem.W.nsIn K mainGlobals "bool" = some none)
    (z_repr : PySem.W.nsIn K mainGlobals "repr" = some none)
    (z_all : PySem.W.nsIn K mainGlobals "all" = some none)
    (a_reach : PySem.W.nsIn K mainGlobals "reach" = some (some (.ref f_reach)))
    (l_reach : K.lookup f_reach = some ⟨oc_reach, od_reach, .func (PySem.W.fnOf "reach" "reach" (defArgs s_reach) (defBody s_reach) (defScope s_reach) .none kV_reach dc_reach pm_reach an_reach cd_reach ct_reach), sl_reach⟩)
    (c_reach : PySem.W.codeIn K cd_reach "reach" = true)
    (k_reach : PySem.W.keepIn K (.ref f_reach) = true)
    (a_holds : PySem.W.nsIn K mainGlobals "holds" = some (some (.ref f_holds)))
    (l_holds : K.lookup f_holds = some ⟨oc_holds, od_holds, .func (PySem.W.fnOf "holds" "holds" (defArgs s_holds) (defBody s_holds) (defScope s_holds) .none kV_holds dc_holds pm_holds an_holds cd_holds ct_holds), sl_holds⟩)
    (c_holds : PySem.W.codeIn K cd_holds "holds" = true)
    (k_holds : PySem.W.keepIn K (.ref f_holds) = true)
    (a_above : PySem.W.nsIn K mainGlobals "above" = some (some (.ref f_above)))
    (l_above : K.lookup f_above = some ⟨oc_above, od_above, .func (PySem.W.fnOf "above" "above" (defArgs s_above) (defBody s_above) (defScope s_above) .none kV_above dc_above pm_above an_above cd_above ct_above), sl_above⟩)
    (c_above : PySem.W.codeIn K cd_above "above" = true)
    (k_above : PySem.W.keepIn K (.ref f_above) = true)
    (a_share : PySem.W.nsIn K mainGlobals "share" = some (some (.ref f_share)))
    (l_share : K.lookup f_share = some ⟨oc_share, od_share, .func (PySem.W.fnOf "share" "share" (defArgs s_share) (defBody s_share) (defScope s_share) .none kV_share dc_share pm_share an_share cd_share ct_share), sl_share⟩)
    (c_share : PySem.W.codeIn K cd_share "share" = true)
    (k_share : PySem.W.keepIn K (.ref f_share) = true)
    (a_laid : PySem.W.nsIn K mainGlobals "laid" = some (some (.ref f_laid)))
    (l_laid : K.lookup f_laid = some ⟨oc_laid, od_laid, .func (PySem.W.fnOf "laid" "laid" (defArgs s_laid) (defBody s_laid) (defScope s_laid) .none kV_laid dc_laid pm_laid an_laid cd_laid ct_laid), sl_laid⟩)
    (c_laid : PySem.W.codeIn K cd_laid "laid" = true)
    (k_laid : PySem.W.keepIn K (.ref f_laid) = true)
    (a_heaps : PySem.W.nsIn K mainGlobals "heaps" = some (some (.ref f_heaps)))
    (l_heaps : K.lookup f_heaps = some ⟨oc_heaps, od_heaps, .func (PySem.W.fnOf "heaps" "heaps" (defArgs s_heaps) (defBody s_heaps) (defScope s_heaps) .none kV_heaps dc_heaps pm_heaps an_heaps cd_heaps ct_heaps), sl_heaps⟩)
    (c_heaps : PySem.W.codeIn K cd_heaps "heaps" = true)
    (k_heaps : PySem.W.keepIn K (.ref f_heaps) = true)
    (a__law_begun : PySem.W.nsIn K mainGlobals "_law_begun" = some (some (.ref f__law_begun)))
    (l__law_begun : K.lookup f__law_begun = some ⟨oc__law_begun, od__law_begun, .func (PySem.W.fnOf "_law_begun" "_law_begun" (defArgs s__law_begun) (defBody s__law_begun) (defScope s__law_begun) .none kV__law_begun dc__law_begun pm__law_begun an__law_begun cd__law_begun ct__law_begun), sl__law_begun⟩)
    (c__law_begun : PySem.W.codeIn K cd__law_begun "_law_begun" = true)
    (k__law_begun : PySem.W.keepIn K (.ref f__law_begun) = true)
    (a__law_draw : PySem.W.nsIn K mainGlobals "_law_draw" = some (some (.ref f__law_draw)))
    (l__law_draw : K.lookup f__law_draw = some ⟨oc__law_draw, od__law_draw, .func (PySem.W.fnOf "_law_draw" "_law_draw" (defArgs s__law_draw) (defBody s__law_draw) (defScope s__law_draw) .none kV__law_draw dc__law_draw pm__law_draw an__law_draw cd__law_draw ct__law_draw), sl__law_draw⟩)
    (c__law_draw : PySem.W.codeIn K cd__law_draw "_law_draw" = true)
    (k__law_draw : PySem.W.keepIn K (.ref f__law_draw) = true)
    (a__law_pick : PySem.W.nsIn K mainGlobals "_law_pick" = some (some (.ref f__law_pick)))
    (l__law_pick : K.lookup f__law_pick = some ⟨oc__law_pick, od__law_pick, .func (PySem.W.fnOf "_law_pick" "_law_pick" (defArgs s__law_pick) (defBody s__law_pick) (defScope s__law_pick) .none kV__law_pick dc__law_pick pm__law_pick an__law_pick cd__law_pick ct__law_pick), sl__law_pick⟩)
    (c__law_pick : PySem.W.codeIn K cd__law_pick "_law_pick" = true)
    (k__law_pick : PySem.W.keepIn K (.ref f__law_pick) = true)
    (a__law_names : PySem.W.nsIn K mainGlobals "_law_names" = some (some (.ref f__law_names)))
    (l__law_names : K.lookup f__law_names = some ⟨oc__law_names, od__law_names, .func (PySem.W.fnOf "_law_names" "_law_names" (defArgs s__law_names) (defBody s__law_names) (defScope s__law_names) .none kV__law_names dc__law_names pm__law_names an__law_names cd__law_names ct__law_names), sl__law_names⟩)
    (c__law_names : PySem.W.codeIn K cd__law_names "_law_names" = true)
    (k__law_names : PySem.W.keepIn K (.ref f__law_names) = true)
    (a__law_dealt : PySem.W.nsIn K mainGlobals "_law_dealt" = some (some (.ref f__law_dealt)))
    (l__law_dealt : K.lookup f__law_dealt = some ⟨oc__law_dealt, od__law_dealt, .func (PySem.W.fnOf "_law_dealt" "_law_dealt" (defArgs s__law_dealt) (defBody s__law_dealt) (defScope s__law_dealt) .none kV__law_dealt dc__law_dealt pm__law_dealt an__law_dealt cd__law_dealt ct__law_dealt), sl__law_dealt⟩)
    (c__law_dealt : PySem.W.codeIn K cd__law_dealt "_law_dealt" = true)
    (k__law_dealt : PySem.W.keepIn K (.ref f__law_dealt) = true)
    (a__law_moved : PySem.W.nsIn K mainGlobals "_law_moved" = some (some (.ref f__law_moved)))
    (l__law_moved : K.lookup f__law_moved = some ⟨oc__law_moved, od__law_moved, .func (PySem.W.fnOf "_law_moved" "_law_moved" (defArgs s__law_moved) (defBody s__law_moved) (defScope s__law_moved) .none kV__law_moved dc__law_moved pm__law_moved an__law_moved cd__law_moved ct__law_moved), sl__law_moved⟩)
    (c__law_moved : PySem.W.codeIn K cd__law_moved "_law_moved" = true)
    (k__law_moved : PySem.W.keepIn K (.ref f__law_moved) = true)
    (a__law_spread : PySem.W.nsIn K mainGlobals "_law_spread" = some (some (.ref f__law_spread)))
    (l__law_spread : K.lookup f__law_spread = some ⟨oc__law_spread, od__law_spread, .func (PySem.W.fnOf "_law_spread" "_law_spread" (defArgs s__law_spread) (defBody s__law_spread) (defScope s__law_spread) .none kV__law_spread dc__law_spread pm__law_spread an__law_spread cd__law_spread ct__law_spread), sl__law_spread⟩)
    (c__law_spread : PySem.W.codeIn K cd__law_spread "_law_spread" = true)
    (k__law_spread : PySem.W.keepIn K (.ref f__law_spread) = true)
    (a__law_sets : PySem.W.nsIn K mainGlobals "_law_sets" = some (some (.ref f__law_sets)))
    (l__law_sets : K.lookup f__law_sets = some ⟨oc__law_sets, od__law_sets, .func (PySem.W.fnOf "_law_sets" "_law_sets" (defArgs s__law_sets) (defBody s__law_sets) (defScope s__law_sets) .none kV__law_sets dc__law_sets pm__law_sets an__law_sets cd__law_sets ct__law_sets), sl__law_sets⟩)
    (c__law_sets : PySem.W.codeIn K cd__law_sets "_law_sets" = true)
    (k__law_sets : PySem.W.keepIn K (.ref f__law_sets) = true)
    (a__law_is_sum : PySem.W.nsIn K mainGlobals "_law_is_sum" = some (some (.ref f__law_is_sum)))
    (l__law_is_sum : K.lookup f__law_is_sum = some ⟨oc__law_is_sum, od__law_is_sum, .func (PySem.W.fnOf "_law_is_sum" "_law_is_sum" (defArgs s__law_is_sum) (defBody s__law_is_sum) (defScope s__law_is_sum) .none kV__law_is_sum dc__law_is_sum pm__law_is_sum an__law_is_sum (.ref cc__law_is_sum) ct__law_is_sum), sl__law_is_sum⟩)
    (c__law_is_sum : PySem.W.codeIn K (.ref cc__law_is_sum) "_law_is_sum" = true)
    (k__law_is_sum : PySem.W.keepIn K (.ref f__law_is_sum) = true)
    (lc__law_is_sum : K.lookup cc__law_is_sum = some ⟨oo__law_is_sum, oe__law_is_sum, .fields vv__law_is_sum, sv__law_is_sum⟩)
    (hv__law_is_sum : (vv__law_is_sum[11]? : Option Value) = some (.ref pp__law_is_sum))
    (tn__law_is_sum : K.lookup pp__law_is_sum = none)
    (a__law_refused : PySem.W.nsIn K mainGlobals "_law_refused" = some (some (.ref f__law_refused)))
    (l__law_refused : K.lookup f__law_refused = some ⟨oc__law_refused, od__law_refused, .func (PySem.W.fnOf "_law_refused" "_law_refused" (defArgs s__law_refused) (defBody s__law_refused) (defScope s__law_refused) .none kV__law_refused dc__law_refused pm__law_refused an__law_refused cd__law_refused ct__law_refused), sl__law_refused⟩)
    (c__law_refused : PySem.W.codeIn K cd__law_refused "_law_refused" = true)
    (k__law_refused : PySem.W.keepIn K (.ref f__law_refused) = true)
    (a__law_row_right : PySem.W.nsIn K mainGlobals "_law_row_right" = some (some (.ref f__law_row_right)))
    (l__law_row_right : K.lookup f__law_row_right = some ⟨oc__law_row_right, od__law_row_right, .func (PySem.W.fnOf "_law_row_right" "_law_row_right" (defArgs s__law_row_right) (defBody s__law_row_right) (defScope s__law_row_right) .none kV__law_row_right dc__law_row_right pm__law_row_right an__law_row_right cd__law_row_right ct__law_row_right), sl__law_row_right⟩)
    (c__law_row_right : PySem.W.codeIn K cd__law_row_right "_law_row_right" = true)
    (k__law_row_right : PySem.W.keepIn K (.ref f__law_row_right) = true)
    (a__law_heaps_right : PySem.W.nsIn K mainGlobals "_law_heaps_right" = some (some (.ref f__law_heaps_right)))
    (l__law_heaps_right : K.lookup f__law_heaps_right = some ⟨oc__law_heaps_right, od__law_heaps_right, .func (PySem.W.fnOf "_law_heaps_right" "_law_heaps_right" (defArgs s__law_heaps_right) (defBody s__law_heaps_right) (defScope s__law_heaps_right) .none kV__law_heaps_right dc__law_heaps_right pm__law_heaps_right an__law_heaps_right cd__law_heaps_right ct__law_heaps_right), sl__law_heaps_right⟩)
    (c__law_heaps_right : PySem.W.codeIn K cd__law_heaps_right "_law_heaps_right" = true)
    (k__law_heaps_right : PySem.W.keepIn K (.ref f__law_heaps_right) = true)
    (a_law : PySem.W.nsIn K mainGlobals "law" = some (some (.ref f_law)))
    (l_law : K.lookup f_law = some ⟨oc_law, od_law, .func (PySem.W.fnOf "law" "law" (defArgs s_law) (defBody s_law) (defScope s_law) .none kV_law dc_law pm_law an_law cd_law ct_law), sl_law⟩)
    (c_law : PySem.W.codeIn K cd_law "law" = true)
    (k_law : PySem.W.keepIn K (.ref f_law) = true)
    (ac_LeftError : PySem.W.nsIn K mainGlobals "LeftError" = some (some (.ref c_LeftError)))
    (ac_NoPast : PySem.W.nsIn K mainGlobals "NoPast" = some (some (.ref c_NoPast)))
    (ac_NoSum : PySem.W.nsIn K mainGlobals "NoSum" = some (some (.ref c_NoSum)))
    (ac_NoTally : PySem.W.nsIn K mainGlobals "NoTally" = some (some (.ref c_NoTally)))
    (xk_NoSum : PySem.W.keepIn K (.ref c_NoSum) = true)
    (xq_NoSum : PySem.W.excIn K c_NoSum [.type "ValueError", .type "Exception", .type "BaseException", .type "object"] "ValueError.__new__" = true)
    (xs_NoSum : PySem.W.subIn K (.ref c_NoSum) (.type "BaseException") = some true)
    (xt_NoSum : PySem.W.typeIn K (.ref c_NoSum) = some (.type "type"))
    (xi_NoSum : PySem.W.isClsIn K c_NoSum = true)
    (xu_NoSum : PySem.W.subIn K (.ref c_NoSum) (.ref c_NoSum) = some true)
    (xg_NoSum : PySem.W.findIn K (.ref c_NoSum) "__getattribute__" = some (some (.builtin "BaseException.__getattribute__")))
    (xh_NoSum : PySem.W.findIn K (.ref c_NoSum) "__getattr__" = some none)
    (xd_NoSum : PySem.W.hasDictIn K c_NoSum = true)
    (xa_NoSum : PySem.W.findIn K (.ref c_NoSum) "__class__" = some (some (.builtin "object.__class__")))
    (xn_NoSum : PySem.W.specialIn K (.builtin "object.__class__") "__get__" = some (some (.builtin "getset_descriptor.__get__")))
    (xw_NoSum : PySem.W.takesIn K (.builtin "object.__class__") = some true)
    (xm_NoSum : PySem.W.mroIn K c_NoSum (.type "object") = some true)
    (xv_NoSum : PySem.W.subIn K (.ref c_NoSum) (.type "ValueError") = some true)
    (zs_LeftError : PySem.W.subIn K (.ref c_LeftError) (.type "BaseException") = some true)
    (zd_LeftError : PySem.W.hasDictIn K c_LeftError = true)
    (zt_LeftError : PySem.W.typeIn K (.ref c_LeftError) = some (.type "type"))
    (zl_NoSum : PySem.W.subIn K (.ref c_NoSum) (.ref c_LeftError) = some true)
    (kk_NoSum_NoSum : PySem.W.kitOne K (.ref c_NoSum) (.ref c_NoSum) = some true)
    (kk_NoSum_NoPast : PySem.W.kitOne K (.ref c_NoSum) (.ref c_NoPast) = some false)
    (kk_NoSum_NoTally : PySem.W.kitOne K (.ref c_NoSum) (.ref c_NoTally) = some false) :
    ∃ fd : FuncData, (∀ (s : Shared) (v : Value), BindsTo s fd ⟨[v], []⟩ [("_law_script", v)]) ∧ (∀ x, x ∈ (["_law_is_sum"] : List Str) → ∃ c P, PySem.W.tabIn (K) x = some (c, P) ∧ (K).lookup P = none) ∧ ∀ base : Heap, K.In base → base.Ns mainGlobals mg → (∀ x, x ∈ (["_law_is_sum"] : List Str) → LamX.TabB base mg (tabC K x) (tabP K x)) → FnG l.prog w K mg base 5 fa fd ["_law_script"] (sp_law K) := by
  have e := hfa.symm.trans (PySem.W.mg_of X G a_law)
  cases e
  have F_reach := fun_mk (st := s_reach) l_reach c_reach k_reach
  have F_holds := fun_mk (st := s_holds) l_holds c_holds k_holds
  have F_above := fun_mk (st := s_above) l_above c_above k_above
  have F_share := fun_mk (st := s_share) l_share c_share k_share
  have F_laid := fun_mk (st := s_laid) l_laid c_laid k_laid
  have F_heaps := fun_mk (st := s_heaps) l_heaps c_heaps k_heaps
  have F__law_begun := fun_mk (st := s__law_begun) l__law_begun c__law_begun k__law_begun
  have F__law_draw := fun_mk (st := s__law_draw) l__law_draw c__law_draw k__law_draw
  have F__law_pick := fun_mk (st := s__law_pick) l__law_pick c__law_pick k__law_pick
  have F__law_names := fun_mk (st := s__law_names) l__law_names c__law_names k__law_names
  have F__law_dealt := fun_mk (st := s__law_dealt) l__law_dealt c__law_dealt k__law_dealt
  have F__law_moved := fun_mk (st := s__law_moved) l__law_moved c__law_moved k__law_moved
  have F__law_spread := fun_mk (st := s__law_spread) l__law_spread c__law_spread k__law_spread
  have F__law_sets := fun_mk (st := s__law_sets) l__law_sets c__law_sets k__law_sets
  have ti__law_is_sum := tab_mk a__law_is_sum l__law_is_sum rfl lc__law_is_sum hv__law_is_sum
  have F__law_is_sum := funC_mk (st := s__law_is_sum) ti__law_is_sum l__law_is_sum c__law_is_sum k__law_is_sum
  have F__law_refused := fun_mk (st := s__law_refused) l__law_refused c__law_refused k__law_refused
  have F__law_row_right := fun_mk (st := s__law_row_right) l__law_row_right c__law_row_right k__law_row_right
  have F__law_heaps_right := fun_mk (st := s__law_heaps_right) l__law_heaps_right c__law_heaps_right k__law_heaps_right
  have F_law := fun_mk (st := s_law) l_law c_law k_law
  have re_NoSum : BX.ErrC K (cErr K "NoSum") := by
    rw [cErr_of ac_NoSum]
    exact ⟨xk_NoSum, xq_NoSum, xs_NoSum, xt_NoSum, BX.exm_self xs_NoSum xi_NoSum xt_NoSum xu_NoSum, ⟨xg_NoSum, xh_NoSum, xs_NoSum, xd_NoSum, xa_NoSum, xn_NoSum, xw_NoSum, xm_NoSum⟩, BX.kit_ve (by decide +kernel) xv_NoSum⟩
  let T : Tx K mg := {
    m_sum := PySem.W.mg_none_of X G z_sum
    m_min := PySem.W.mg_none_of X G z_min
    m_sorted := PySem.W.mg_none_of X G z_sorted
    m_enumerate := PySem.W.mg_none_of X G z_enumerate
    m_max := PySem.W.mg_none_of X G z_max
    m_set := PySem.W.mg_none_of X G z_set
    m_list := PySem.W.mg_none_of X G z_list
    m_zip := PySem.W.mg_none_of X G z_zip
    m_tuple := PySem.W.mg_none_of X G z_tuple
    m_dict := PySem.W.mg_none_of X G z_dict
    m_abs := PySem.W.mg_none_of X G z_abs
    m_len := PySem.W.mg_none_of X G z_len
    m_range := PySem.W.mg_none_of X G z_range
    m_isinstance := PySem.W.mg_none_of X G z_isinstance
    m_ValueError := PySem.W.mg_none_of X G z_ValueError
    m_int := PySem.W.mg_none_of X G z_int
    m_bool := PySem.W.mg_none_of X G z_bool
    m_repr := PySem.W.mg_none_of X G z_repr
    m_all := PySem.W.mg_none_of X G z_all
    f_reach := f_reach
    d_reach := _
    F_reach := F_reach
    b_reach := F_reach.binds (ps := ["sizes", "many"]) fun _ _ _ _ _ _ us hl => match us, hl with | [_, _], _ => rfl
    g_reach := PySem.W.mg_of X G a_reach
    f_holds := f_holds
    d_holds := _
    F_holds := F_holds
    b_holds := F_holds.binds (ps := ["sizes", "wanted"]) fun _ _ _ _ _ _ us hl => match us, hl with | [_, _], _ => rfl
    g_holds := PySem.W.mg_of X G a_holds
    f_above := f_above
    d_above := _
    F_above := F_above
    b_above := F_above.binds (ps := ["left", "level", "times"]) fun _ _ _ _ _ _ us hl => match us, hl with | [_, _, _], _ => rfl
    g_above := PySem.W.mg_of X G a_above
    f_share := f_share
    d_share := _
    F_share := F_share
    b_share := F_share.binds (ps := ["left", "size", "times"]) fun _ _ _ _ _ _ us hl => match us, hl with | [_, _, _], _ => rfl
    g_share := PySem.W.mg_of X G a_share
    f_laid := f_laid
    d_laid := _
    F_laid := F_laid
    b_laid := F_laid.binds (ps := ["taken", "size", "times"]) fun _ _ _ _ _ _ us hl => match us, hl with | [_, _, _], _ => rfl
    g_laid := PySem.W.mg_of X G a_laid
    f_heaps := f_heaps
    d_heaps := _
    F_heaps := F_heaps
    b_heaps := F_heaps.binds (ps := ["sizes", "wanted"]) fun _ _ _ _ _ _ us hl => match us, hl with | [_, _], _ => rfl
    g_heaps := PySem.W.mg_of X G a_heaps
    f__law_begun := f__law_begun
    d__law_begun := _
    F__law_begun := F__law_begun
    b__law_begun := F__law_begun.binds (ps := ["_law_script"]) fun _ _ _ _ _ _ us hl => match us, hl with | [_], _ => rfl
    g__law_begun := PySem.W.mg_of X G a__law_begun
    f__law_draw := f__law_draw
    d__law_draw := _
    F__law_draw := F__law_draw
    b__law_draw := F__law_draw.binds (ps := ["_law_state", "_law_many"]) fun _ _ _ _ _ _ us hl => match us, hl with | [_, _], _ => rfl
    g__law_draw := PySem.W.mg_of X G a__law_draw
    f__law_pick := f__law_pick
    d__law_pick := _
    F__law_pick := F__law_pick
    b__law_pick := F__law_pick.binds (ps := ["_law_state", "_law_some"]) fun _ _ _ _ _ _ us hl => match us, hl with | [_, _], _ => rfl
    g__law_pick := PySem.W.mg_of X G a__law_pick
    f__law_names := f__law_names
    d__law_names := _
    F__law_names := F__law_names
    b__law_names := F__law_names.binds (ps := ["_law_state", "_law_many"]) fun _ _ _ _ _ _ us hl => match us, hl with | [_, _], _ => rfl
    g__law_names := PySem.W.mg_of X G a__law_names
    f__law_dealt := f__law_dealt
    d__law_dealt := _
    F__law_dealt := F__law_dealt
    b__law_dealt := F__law_dealt.binds (ps := ["_law_state", "_law_names_here"]) fun _ _ _ _ _ _ us hl => match us, hl with | [_, _], _ => rfl
    g__law_dealt := PySem.W.mg_of X G a__law_dealt
    f__law_moved := f__law_moved
    d__law_moved := _
    F__law_moved := F__law_moved
    b__law_moved := F__law_moved.binds (ps := ["_law_state", "_law_need"]) fun _ _ _ _ _ _ us hl => match us, hl with | [_, _], _ => rfl
    g__law_moved := PySem.W.mg_of X G a__law_moved
    f__law_spread := f__law_spread
    d__law_spread := _
    F__law_spread := F__law_spread
    b__law_spread := F__law_spread.binds (ps := ["_law_state", "_law_need"]) fun _ _ _ _ _ _ us hl => match us, hl with | [_, _], _ => rfl
    g__law_spread := PySem.W.mg_of X G a__law_spread
    f__law_sets := f__law_sets
    d__law_sets := _
    F__law_sets := F__law_sets
    b__law_sets := F__law_sets.binds (ps := ["_law_names_here"]) fun _ _ _ _ _ _ us hl => match us, hl with | [_], _ => rfl
    g__law_sets := PySem.W.mg_of X G a__law_sets
    f__law_is_sum := f__law_is_sum
    d__law_is_sum := _
    F__law_is_sum := F__law_is_sum
    b__law_is_sum := F__law_is_sum.binds (ps := ["_law_lots", "_law_need"]) fun _ _ _ _ _ _ us hl => match us, hl with | [_, _], _ => rfl
    g__law_is_sum := PySem.W.mg_of X G a__law_is_sum
    f__law_refused := f__law_refused
    d__law_refused := _
    F__law_refused := F__law_refused
    b__law_refused := F__law_refused.binds (ps := ["_law_lots", "_law_need"]) fun _ _ _ _ _ _ us hl => match us, hl with | [_, _], _ => rfl
    g__law_refused := PySem.W.mg_of X G a__law_refused
    f__law_row_right := f__law_row_right
    d__law_row_right := _
    F__law_row_right := F__law_row_right
    b__law_row_right := F__law_row_right.binds (ps := ["_law_row", "_law_names_here"]) fun _ _ _ _ _ _ us hl => match us, hl with | [_, _], _ => rfl
    g__law_row_right := PySem.W.mg_of X G a__law_row_right
    f__law_heaps_right := f__law_heaps_right
    d__law_heaps_right := _
    F__law_heaps_right := F__law_heaps_right
    b__law_heaps_right := F__law_heaps_right.binds (ps := ["_law_lots", "_law_need"]) fun _ _ _ _ _ _ us hl => match us, hl with | [_, _], _ => rfl
    g__law_heaps_right := PySem.W.mg_of X G a__law_heaps_right
    f_law := fa
    d_law := _
    F_law := F_law
    g_LeftError := by
      rw [cErr_of ac_LeftError]
      exact PySem.W.mg_of X G ac_LeftError
    g_NoPast := by
      rw [cErr_of ac_NoPast]
      exact PySem.W.mg_of X G ac_NoPast
    g_NoSum := by
      rw [cErr_of ac_NoSum]
      exact PySem.W.mg_of X G ac_NoSum
    g_NoTally := by
      rw [cErr_of ac_NoTally]
      exact PySem.W.mg_of X G ac_NoTally
    rc_NoSum := re_NoSum
    rf_NoSum := ⟨re_NoSum, by rw [cErr_of ac_NoSum, cErr_of ac_LeftError]; exact PySem.W.exm_ref zs_LeftError zd_LeftError zt_LeftError zl_NoSum, refd_mk ["NoSum", "NoPast", "NoTally"] ⟨by rw [cErr_of ac_NoSum]; exact kk_NoSum_NoSum.trans (by decide +kernel), by rw [cErr_of ac_NoSum, cErr_of ac_NoPast]; exact kk_NoSum_NoPast.trans (by decide +kernel), by rw [cErr_of ac_NoSum, cErr_of ac_NoTally]; exact kk_NoSum_NoTally.trans (by decide +kernel), trivial⟩⟩
    kb_heaps_wanted_sizes := kwb_mk F_heaps fun _ _ _ _ _ _ us hl => match us, hl with | [_, _], _ => rfl
    kb_holds_wanted_sizes := kwb_mk F_holds fun _ _ _ _ _ _ us hl => match us, hl with | [_, _], _ => rfl }
  exact ⟨T.d_law, fun s v => .of_eq rfl, (fun x hx => by
    simp only [List.mem_cons, List.not_mem_nil, or_false] at hx
    rcases hx with rfl
    · exact ⟨_, _, ti__law_is_sum, tn__law_is_sum⟩), fun base _ _ TB => ok_law T TB⟩
theorem walk {l : PySem.W.OpenLaw} {q : Program} {loose : List Str} {XP : (Str → Option Value) → Heap → Prop} {YP : World → Heap → Prop} {d : DefRec} {K : Params → PySem.W.Frag} (hn : l.most = some 63) (hdf : d.params.defaults = []) (hrec : ((["_law_is_sum"] : List Str).all fun x => ((PyProof.Rows.recsOf q).find? fun e => e.name == x).isSome) = true)
    (hY : ∀ (w : World) (h : Heap), YP w h → (K w.params).In h)
    (F : ∀ (w : World) (mg : Str → Option Value) (fa : Addr) (h : Heap), (K w.params).In h → h.Ns mainGlobals mg → mg d.name = some (.ref fa) →
      ∃ fd : FuncData, (∀ (s : Shared) (u : Value), BindsTo s fd ⟨[u], []⟩ [("_law_script", u)]) ∧ (∀ x, x ∈ (["_law_is_sum"] : List Str) → ∃ c P, PySem.W.tabIn (K w.params) x = some (c, P) ∧ (K w.params).lookup P = none) ∧ ∀ base : Heap, (K w.params).In base → base.Ns mainGlobals mg → (∀ x, x ∈ (["_law_is_sum"] : List Str) → LamX.TabB base mg (tabC (K w.params) x) (tabP (K w.params) x)) → FnG l.prog w (K w.params) mg base 5 fa fd ["_law_script"] (sp_law (K w.params))) :
    PySem.W.WalkO q loose XP YP l.row.toRowW d [] (fun f vs => PySem.call f vs) :=
  walkGT (xs := (["_law_is_sum"] : List Str)) (n := 63) (k := 5) (x := "_law_script") (sp := fun w => sp_law (K w.params)) hn (by decide) hdf ⟨rfl, by decide, by decide⟩ hrec hY F (fun _ _ a ns hl hT hS => law_in a ns hl hS fun x hx => hT x hx)

end B
open PySem PySem.W PyProof.Rows
set_option maxRecDepth 100000 in
set_option maxHeartbeats 0 in
theorem PySem.Challenge.cw_bygone_k22_whole_heaps_laid_holds : PySem.Challenge.rw_bygone_k22_whole_heaps_laid.Holds := by
  w_on; o_law; k_head; (case hw => w_witness2)
  k_fill
  refine B.walk (l := PySem.Challenge.rw_bygone_k22_whole_heaps_laid) rfl rfl (by decide +kernel) (fun w h Y => PySem.W.km_in_of Y) ?F
  case F =>
    intro w mg fa h KX G hmg
    refine' B.all_mk KX G hmg ?z_sum ?z_min ?z_sorted ?z_enumerate ?z_max ?z_set ?z_list ?z_zip ?z_tuple ?z_dict ?z_abs ?z_len ?z_range ?z_isinstance ?z_ValueError ?z_int ?z_bool ?z_repr ?z_all ?a_reach ?l_reach ?c_reach ?k_reach ?a_holds ?l_holds ?c_holds ?k_holds ?a_above ?l_above ?c_above ?k_above ?a_share ?l_share ?c_share ?k_share ?a_laid ?l_laid ?c_laid ?k_laid ?a_heaps ?l_heaps ?c_heaps ?k_heaps ?a__law_begun ?l__law_begun ?c__law_begun ?k__law_begun ?a__law_draw ?l__law_draw ?c__law_draw ?k__law_draw ?a__law_pick ?l__law_pick ?c__law_pick ?k__law_pick ?a__law_names ?l__law_names ?c__law_names ?k__law_names ?a__law_dealt ?l__law_dealt ?c__law_dealt ?k__law_dealt ?a__law_moved ?l__law_moved ?c__law_moved ?k__law_moved ?a__law_spread ?l__law_spread ?c__law_spread ?k__law_spread ?a__law_sets ?l__law_sets ?c__law_sets ?k__law_sets ?a__law_is_sum ?l__law_is_sum ?c__law_is_sum ?k__law_is_sum ?lc__law_is_sum ?hv__law_is_sum ?tn__law_is_sum ?a__law_refused ?l__law_refused ?c__law_refused ?k__law_refused ?a__law_row_right ?l__law_row_right ?c__law_row_right ?k__law_row_right ?a__law_heaps_right ?l__law_heaps_right ?c__law_heaps_right ?k__law_heaps_right ?a_law ?l_law ?c_law ?k_law ?ac_LeftError ?ac_NoPast ?ac_NoSum ?ac_NoTally ?xk_NoSum ?xq_NoSum ?xs_NoSum ?xt_NoSum ?xi_NoSum ?xu_NoSum ?xg_NoSum ?xh_NoSum ?xd_NoSum ?xa_NoSum ?xn_NoSum ?xw_NoSum ?xm_NoSum ?xv_NoSum ?zs_LeftError ?zd_LeftError ?zt_LeftError ?zl_NoSum ?kk_NoSum_NoSum ?kk_NoSum_NoPast ?kk_NoSum_NoTally
    (case z_sum => k_is)
    (case z_min => k_is)
    (case z_sorted => k_is)
    (case z_enumerate => k_is)
    (case z_max => k_is)
    (case z_set => k_is)
    (case z_list => k_is)
    (case z_zip => k_is)
    (case z_tuple => k_is)
    (case z_dict => k_is)
    (case z_abs => k_is)
    (case z_len => k_is)
    (case z_range => k_is)
    (case z_isinstance => k_is)
    (case z_ValueError => k_is)
    (case z_int => k_is)
    (case z_bool => k_is)
    (case z_repr => k_is)
    (case z_all => k_is)
    (case ac_LeftError => k_is)
    (case ac_NoPast => k_is)
    (case ac_NoSum => k_is)
    (case ac_NoTally => k_is)
    (case a_reach => k_is)
    (case a_holds => k_is)
    (case a_above => k_is)
    (case a_share => k_is)
    (case a_laid => k_is)
    (case a_heaps => k_is)
    (case a__law_begun => k_is)
    (case a__law_draw => k_is)
    (case a__law_pick => k_is)
    (case a__law_names => k_is)
    (case a__law_dealt => k_is)
    (case a__law_moved => k_is)
    (case a__law_spread => k_is)
    (case a__law_sets => k_is)
    (case a__law_is_sum => k_is)
    (case a__law_refused => k_is)
    (case a__law_row_right => k_is)
    (case a__law_heaps_right => k_is)
    (case a_law => k_is)
    (case l_reach => k_is)
    (case c_reach => k_is)
    (case k_reach => k_is)
    (case l_holds => k_is)
    (case c_holds => k_is)
    (case k_holds => k_is)
    (case l_above => k_is)
    (case c_above => k_is)
    (case k_above => k_is)
    (case l_share => k_is)
    (case c_share => k_is)
    (case k_share => k_is)
    (case l_laid => k_is)
    (case c_laid => k_is)
    (case k_laid => k_is)
    (case l_heaps => k_is)
    (case c_heaps => k_is)
    (case k_heaps => k_is)
    (case l__law_begun => k_is)
    (case c__law_begun => k_is)
    (case k__law_begun => k_is)
    (case l__law_draw => k_is)
    (case c__law_draw => k_is)
    (case k__law_draw => k_is)
    (case l__law_pick => k_is)
    (case c__law_pick => k_is)
    (case k__law_pick => k_is)
    (case l__law_names => k_is)
    (case c__law_names => k_is)
    (case k__law_names => k_is)
    (case l__law_dealt => k_is)
    (case c__law_dealt => k_is)
    (case k__law_dealt => k_is)
    (case l__law_moved => k_is)
    (case c__law_moved => k_is)
    (case k__law_moved => k_is)
    (case l__law_spread => k_is)
    (case c__law_spread => k_is)
    (case k__law_spread => k_is)
    (case l__law_sets => k_is)
    (case c__law_sets => k_is)
    (case k__law_sets => k_is)
    (case l__law_is_sum => k_is)
    (case c__law_is_sum => k_is)
    (case k__law_is_sum => k_is)
    (case lc__law_is_sum => k_is)
    (case hv__law_is_sum => exact rfl)
    (case tn__law_is_sum => kernel_rfl)
    (case l__law_refused => k_is)
    (case c__law_refused => k_is)
    (case k__law_refused => k_is)
    (case l__law_row_right => k_is)
    (case c__law_row_right => k_is)
    (case k__law_row_right => k_is)
    (case l__law_heaps_right => k_is)
    (case c__law_heaps_right => k_is)
    (case k__law_heaps_right => k_is)
    (case l_law => k_is)
    (case c_law => k_is)
    (case k_law => k_is)
    (case xk_NoSum => k_is)
    (case xq_NoSum => k_exc)
    (case xs_NoSum => k_is)
    (case xt_NoSum => k_is)
    (case xi_NoSum => k_is)
    (case xu_NoSum => first | rfl | k_is)
    (case xg_NoSum => k_is)
    (case xh_NoSum => k_is)
    (case xd_NoSum => k_is)
    (case xa_NoSum => k_is)
    (case xn_NoSum => k_is)
    (case xw_NoSum => k_is)
    (case xm_NoSum => k_is)
    (case xv_NoSum => k_is)
    (case zs_LeftError => k_is)
    (case zd_LeftError => k_is)
    (case zt_LeftError => k_is)
    (case zl_NoSum => k_is)
    (case kk_NoSum_NoSum => kit_is)
    (case kk_NoSum_NoPast => kit_is)
    (case kk_NoSum_NoTally => kit_is)
