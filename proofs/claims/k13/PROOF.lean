import PyProof.Rows.All
import Wide.All
import OpenK.AllK
import Wide.FinOn
import HandS.ForMost
import HandS.Evl
import HandS.IsInst
import HandS.Style
import HandS.SortInts
import HandS.ListItems
import HandS.DictComp
import KE.DatumMoreOrd
import KE.DatumIndex
import KE.GoesZip
import KE.GoesMore
import KE.KTupSum
import KE.KDictSum
import HandS.Zip
import HandS.SortKw
import HandS.TupMul
import HandS.SetKeys
import HandS.Conv
import HandS.TupAny
import HandS.OwnEq
import HandS.SlotsOwn
import HandS.HeadEnd
import KE.GoesEnum
import HandS.TupLe
import HandS.NoneIn
import HandS.SetFor
import HandS.Set
import HandS.Exc
import HandS.ExcOwn
import HandS.ExcIs
import HandS.WordsExc
import HandS.WideBits
import HandS.Text
import HandS.MakeKwOnly
import PyProof.InstEq
import KE.SortData
import KE.KItemsList
import HandS.DictTup
import PyProof.ConsumeS
import PyProof.WalkInts
import PyProof.GenQ
import HandS.Ends
import PyProof.ReprReads
import PyProof.Rows.StrMeet
import HandS.Sort
import PyProof.EqKinds
import HandS.Finally
import HandS.ExcInit
import HandS.ExcField
import PyProof.ReprLen
import PyProof.StrLawsRepr
import PyProof.Rows.RegStrFacts
import PyProof.Rows.StrFit
import HandS.EndTab
import HandS.NestedK
import PySem.Challenge.RW_bygone_k13_marks_kept
set_option Elab.async false
set_option linter.all false
set_option maxRecDepth 100000
set_option maxHeartbeats 4000000
/-! B: worlds (an unchanging part of the heap within the heap), data read off the unchanging part, what a reading evaluates to -/
namespace B
open PySem L2
abbrev SS := L2.St
abbrev Fg := PySem.W.Frag
open Evl (Ex)
open PySem.W (Tup T3 T4 Datum DatumOrd)

/-! ### heaps -/
/-- all is kept, but that a dict may be locked -/
def Ext (H H' : Hp) : Prop := ∀ a o, H a = some o → H' a = some o ∨ ((∃ kvs, o = HO.dK kvs) ∧ ∃ ob, H' a = some (.frz ob o))
theorem Ext.refl (H : Hp) : Ext H H := fun _ _ h => .inl h
theorem exExt {H H' : Hp} (e : Ex H H') : Ext H H' := fun a o h => .inl (e a o h)
theorem Ext.trans {H H1 H2 : Hp} (a : Ext H H1) (b : Ext H1 H2) : Ext H H2 := fun x o h => by
  rcases a x o h with h1 | ⟨⟨k, rfl⟩, ob, h1⟩
  · exact b x o h1
  · rcases b x _ h1 with h2 | ⟨⟨k', h2⟩, _⟩
    · exact .inr ⟨⟨k, rfl⟩, ob, h2⟩
    · cases h2
theorem Ext.rd {H H' : Hp} {a : Addr} {u : HO} (e : Ext H H') (h : Rd H a u) : Rd H' a u := by
  rcases h with h | ⟨o, h⟩
  · rcases e a _ h with h1 | ⟨_, ob, h1⟩
    · exact .inl h1
    · exact .inr ⟨ob, h1⟩
  · rcases e a _ h with h1 | ⟨⟨k, h1⟩, _⟩
    · exact .inr ⟨o, h1⟩
    · cases h1
theorem Ext.free {H H' : Hp} {p : Addr} (e : Ext H H') (h : H' p = none) : H p = none := by
  cases q : H p with
  | none => rfl
  | some o => rcases e p o q with h1 | ⟨_, ob, h1⟩ <;> (rw [h] at h1; cases h1)
theorem Ext.l {K : Fg} {H H' : Hp} {a : Addr} {xs : List V} (e : Ext H H') (h : SqL K H a xs) : SqL K H' a xs := by
  rcases h with h | h
  · exact .inl (e.rd h)
  · exact .inr h
theorem Ext.t {K : Fg} {H H' : Hp} {a : Addr} {xs : List V} (e : Ext H H') (h : SqT K H a xs) : SqT K H' a xs := by
  rcases h with h | h
  · exact .inl (e.rd h)
  · exact .inr h
theorem Ext.el {H H' : Hp} {a : Addr} {xs : List V} (e : Ext H H') (h : H a = some (.lst xs)) : H' a = some (.lst xs) := by
  rcases e a _ h with h1 | ⟨⟨_, q⟩, _⟩
  · exact h1
  · cases q
theorem Ext.et {H H' : Hp} {a : Addr} {xs : List V} (e : Ext H H') (h : H a = some (.tup xs)) : H' a = some (.tup xs) := by
  rcases e a _ h with h1 | ⟨⟨_, q⟩, _⟩
  · exact h1
  · cases q
theorem Ext.ins {H H' : Hp} {a C dx : Addr} {fs : List (Str × V)} (e : Ext H H') (h : H a = some (.ins C dx fs)) : H' a = some (.ins C dx fs) := by
  rcases e a _ h with h1 | ⟨⟨_, q⟩, _⟩
  · exact h1
  · cases q
theorem Ext.lock {H : Hp} {d : Addr} {kvs : List (Key × V)} {od : Obj} (h : H d = some (.dK kvs)) : Ext H (upd H d (.frz od (.dK kvs))) := fun a o e => by
  by_cases q : a = d
  · subst q
    rw [h] at e; cases e
    exact .inr ⟨⟨kvs, rfl⟩, od, upd_same⟩
  · exact .inl (by rw [upd_ne q]; exact e)

/-- a world: the heap H, within it the part B that stays as it is -/
structure Wd where
  B : Hp
  H : Hp
  sub : Ext B H
/-- a thing that is no tuple stands at a -/
def Nt (H : Hp) (a : Addr) : Prop := ∃ o, H a = some o ∧ ∀ xs, o ≠ .tup xs
theorem Nt.ne {H : Hp} {a : Addr} (h : Nt H a) : H a ≠ none := by
  obtain ⟨o, e, _⟩ := h
  rw [e]; exact fun z => by cases z
theorem Nt.l {H : Hp} {a : Addr} {xs : List V} (h : H a = some (.lst xs)) : Nt H a := ⟨_, h, fun _ z => by cases z⟩
theorem Nt.k {H : Hp} {a : Addr} {xs : List (Key × V)} (h : H a = some (.dK xs)) : Nt H a := ⟨_, h, fun _ z => by cases z⟩
/-- the world has moved on: what stays is as it was (and no more of it is locked), of the rest only S may have changed; what was free to change still is -/
structure Md (S : List Addr) (W W' : Wd) : Prop where
  b : Ex W.B W'.B
  l : ∀ a o, W.B a = some o → W.H a = some o → W'.H a = some o
  o : ∀ a o, a ∉ S → W.H a = some o → W'.H a = some o
  m : ∀ a, Nt W.H a → W'.B a = W.B a
  d : ∀ a, W.H a ≠ none → W'.H a ≠ none
  n : ∀ a, Nt W.H a → Nt W'.H a
theorem Md.refl (S : List Addr) (W : Wd) : Md S W W := ⟨Evl.Ex.refl _, fun _ _ _ h => h, fun _ _ _ h => h, fun _ _ => rfl, fun _ h => h, fun _ h => h⟩
theorem Md.trans {S : List Addr} {W W1 W2 : Wd} (a : Md S W W1) (b : Md S W1 W2) : Md S W W2 := ⟨a.b.trans b.b, fun x o h1 h2 => b.l x o (a.b x o h1) (a.l x o h1 h2), fun x o h1 h2 => b.o x o h1 (a.o x o h1 h2), fun x hx => by
  rw [b.m x (a.n x hx), a.m x hx], fun x hx => b.d x (a.d x hx), fun x hx => b.n x (a.n x hx)⟩
theorem Md.mono {S S' : List Addr} {W W' : Wd} (a : Md S W W') (h : ∀ x, x ∈ S → x ∈ S') : Md S' W W' := ⟨a.b, a.l, fun x o h1 h2 => a.o x o (fun z => h1 (h x z)) h2, a.m, a.d, a.n⟩
theorem Md.mut {S : List Addr} {W W' : Wd} (g : Md S W W') {a : Addr} {o : HO} (hS : a ∉ S) (h : W.H a = some o) (n : W.B a = none) (ho : ∀ xs, o ≠ .tup xs := by intro _ h; cases h) : W'.H a = some o ∧ W'.B a = none :=
  ⟨g.o a o hS h, by rw [g.m a ⟨o, h, ho⟩]; exact n⟩
abbrev Grow := Md []
theorem Md.h {W W' : Wd} (g : Md [] W W') : Ex W.H W'.H := fun a o e => g.o a o (by simp) e
theorem Grow.s {S : List Addr} {W W' : Wd} (g : Grow W W') : Md S W W' := g.mono fun _ h => by simp at h
theorem Grow.mk {W W' : Wd} (b : Ex W.B W'.B) (h : Ex W.H W'.H) (m : ∀ a, Nt W.H a → W'.B a = W.B a) : Grow W W' := ⟨b, fun a o _ h2 => h a o h2, fun a o _ h2 => h a o h2, m, fun a h2 z => (by
  cases q : W.H a with
  | none => exact h2 q
  | some o => rw [h a o q] at z; cases z), fun a ⟨o, e, ho⟩ => ⟨o, h a o e, ho⟩⟩
theorem Wd.free (W : Wd) {p : Addr} (h : W.H p = none) : W.B p = none := W.sub.free h
/-- a new thing that stays -/
def Wd.add (W : Wd) (p : Addr) (o : HO) : Wd := ⟨upd W.B p o, upd W.H p o, fun a u e => by
  by_cases q : a = p
  · subst q; rw [upd_same] at e; cases e; exact .inl upd_same
  · rw [upd_ne q] at e; rw [upd_ne q]; exact W.sub a u e⟩
theorem Wd.grow_add (W : Wd) {p : Addr} {o : HO} (h : W.H p = none) : Grow W (W.add p o) :=
  .mk (Evl.Ex.new (W.free h)) (Evl.Ex.new h) fun a ha => by
    have : a ≠ p := fun e => ha.ne (by rw [e]; exact h)
    show upd W.B p o a = W.B a
    rw [upd_ne this]
/-- a thing that may change, new or changed -/
def Wd.put (W : Wd) (p : Addr) (o : HO) (h : W.B p = none) : Wd := ⟨W.B, upd W.H p o, fun a u e => by
  have q : a ≠ p := fun q => by rw [q, h] at e; cases e
  rw [upd_ne q]; exact W.sub a u e⟩
theorem Wd.grow_put (W : Wd) {p : Addr} {o : HO} (h : W.H p = none) : Grow W (W.put p o (W.free h)) :=
  .mk (Evl.Ex.refl _) (Evl.Ex.new h) fun _ _ => rfl
theorem md_put {W : Wd} {p : Addr} {o : HO} (h : W.B p = none) (ho : ∀ xs, o ≠ .tup xs := by intro _ h; cases h) : Md [p] W (W.put p o h) := ⟨Evl.Ex.refl _, fun a u h1 h2 => by
    have : a ≠ p := fun e => by rw [e, h] at h1; cases h1
    show upd W.H p o a = some u
    rw [upd_ne this]; exact h2, fun a u h1 h2 => by
    have : a ≠ p := fun e => h1 (by rw [e]; simp)
    show upd W.H p o a = some u
    rw [upd_ne this]; exact h2, fun _ _ => rfl, fun a ha => by
    show upd W.H p o a ≠ none
    by_cases q : a = p
    · rw [q, upd_same]; exact fun z => by cases z
    · rw [upd_ne q]; exact ha, fun a ha => by
    show Nt (upd W.H p o) a
    by_cases q : a = p
    · rw [q]; exact ⟨o, upd_same, ho⟩
    · obtain ⟨u, e, hu⟩ := ha
      exact ⟨u, (upd_ne q).trans e, hu⟩⟩
/-- tuples never change: those at bs may be taken into what stays -/
def Wd.tup (W : Wd) (bs : List Addr) : Wd := ⟨fun b => match W.B b with
    | some o => some o
    | none => match W.H b with
      | some (.tup xs) => if b ∈ bs then some (.tup xs) else none
      | _ => none, W.H, fun b o e => by
  cases q : W.B b with
  | some u =>
    simp only [q] at e
    cases e
    exact W.sub b _ q
  | none =>
    simp only [q] at e
    cases q2 : W.H b with
    | none => simp only [q2] at e; cases e
    | some u =>
      cases u <;> simp only [q2] at e <;> try (cases e; done)
      split at e
      · cases e; exact .inl rfl
      · cases e⟩
theorem Wd.grow_tup (W : Wd) (bs : List Addr) : Grow W (W.tup bs) := .mk (fun b o e => by
    show (match W.B b with | some o => some o | none => _) = some o
    rw [e]) (fun _ _ h => h) fun b ⟨o, e, ho⟩ => by
  show (match W.B b with | some o => some o | none => _) = W.B b
  cases q : W.B b with
  | some u => rfl
  | none =>
    rw [e]
    cases o <;> first | rfl | exact absurd rfl (ho _)
theorem Wd.tup_at {W : Wd} {bs : List Addr} {b : Addr} {xs : List V} (h : W.H b = some (.tup xs)) (hb : b ∈ bs) : (W.tup bs).B b = some (.tup xs) := by
  show (match W.B b with | some o => some o | none => _) = _
  cases q : W.B b with
  | some u =>
    rcases W.sub b _ q with z | ⟨⟨k, rfl⟩, ob, z⟩
    · rw [h] at z; cases z; rfl
    · rw [h] at z; cases z
  | none =>
    simp only [h, if_pos hb]
/-- what an expression may do: S may change, I holds throughout -/
structure Ef where
  S : List Addr
  I : Wd → Prop
  dom : ∀ W a, I W → a ∈ S → Nt W.H a
  mv : ∀ W W', Ex W.B W'.B → (∀ a, a ∈ S → Nt W.H a → W'.H a = W.H a ∧ W'.B a = W.B a) → I W → I W'
theorem Ef.grow (ε : Ef) (W W' : Wd) (g : Grow W W') (h : ε.I W) : ε.I W' := ε.mv W W' g.b (fun a _ ha => by
  obtain ⟨o, q, _⟩ := id ha
  exact ⟨(g.h a o q).trans q.symm, g.m a ha⟩) h
theorem Ef.off {ε : Ef} {W : Wd} {D : Addr} (i : ε.I W) (h : W.H D = none) : D ∉ ε.S := fun z => (ε.dom W D i z).ne h
def pur : Ef := ⟨[], fun _ => True, fun _ _ _ h => by simp at h, fun _ _ _ _ _ => trivial⟩
structure Stp (ε : Ef) (W W' : Wd) : Prop where
  md : Md ε.S W W'
  i : ε.I W'
theorem Stp.rf {ε : Ef} {W W' : Wd} (a : Stp ε W W') : Stp ε W' W' := ⟨.refl _ _, a.i⟩
theorem Stp.start {ε : Ef} {W : Wd} (a : ε.I W) : Stp ε W W := ⟨.refl _ _, a⟩
theorem Stp.trans {ε : Ef} {W W1 W2 : Wd} (a : Stp ε W W1) (b : Stp ε W1 W2) : Stp ε W W2 := ⟨a.md.trans b.md, b.i⟩
theorem Stp.and {ε : Ef} {W W1 W2 : Wd} (a : Stp ε W W1) (b : Grow W1 W2) : Stp ε W W2 := ⟨a.md.trans (Grow.s b), ε.grow _ _ b a.i⟩
theorem Stp.pure {W W' : Wd} (a : Stp pur W W') : Grow W W' := a.md
theorem Stp.of {W W' : Wd} (a : Grow W W') : Stp pur W W' := ⟨a, trivial⟩

/-! ### data -/
class Py (α : Type) where
  rep : Fg → Hp → V → α → Prop
  mono : ∀ {K : Fg} {H H' : Hp} {v : V} {x : α}, Ext H H' → rep K H v x → rep K H' v x
abbrev rep {α : Type} [Py α] (K : Fg) (H : Hp) (v : V) (x : α) : Prop := Py.rep K H v x
theorem rex {α : Type} [Py α] {K : Fg} {H H' : Hp} {v : V} {x : α} (e : Ex H H') (h : rep K H v x) : rep K H' v x := Py.mono (exExt e) h
instance : Py Int := ⟨fun _ _ v i => v = .int i, fun _ h => h⟩
instance : Py Bool := ⟨fun _ _ v b => v = .bl b, fun _ h => h⟩
instance : Py Str := ⟨fun _ _ v s => v = .str s, fun _ h => h⟩
instance : Py Unit := ⟨fun _ _ v _ => v = .non, fun _ h => h⟩
/-- any value by itself -/
structure Raw where
  v : V
instance : Py Raw := ⟨fun _ _ v x => v = x.v, fun _ h => h⟩
abbrev Reps {α : Type} [Py α] (K : Fg) (H : Hp) (vs : List V) (xs : List α) : Prop := Paired (rep K H) vs xs
theorem Reps.mono {α : Type} [Py α] {K : Fg} {H H' : Hp} (e : Ext H H') : ∀ {vs : List V} {xs : List α}, Reps K H vs xs → Reps K H' vs xs
  | _, _, .nil => .nil
  | _, _, .cons a b => .cons (Py.mono e a) (Reps.mono e b)
theorem Reps.len {α : Type} [Py α] {K : Fg} {H : Hp} {vs : List V} {xs : List α} (h : Reps K H vs xs) : vs.length = xs.length := Paired.length h
theorem Reps.get {α : Type} [Py α] {K : Fg} {H : Hp} : ∀ {vs : List V} {xs : List α}, Reps K H vs xs → ∀ {i : Nat} {v : V}, vs[i]? = some v → ∃ x, xs[i]? = some x ∧ rep K H v x
  | _, _, .nil, i, v, e => by simp at e
  | _, _, .cons a b, 0, v, e => by simp at e; subst e; exact ⟨_, rfl, a⟩
  | _, _, .cons a b, i + 1, v, e => by
    obtain ⟨x, h1, h2⟩ := Reps.get b (i := i) (v := v) (by simpa using e)
    exact ⟨x, by simpa using h1, h2⟩
theorem Reps.get' {α : Type} [Py α] {K : Fg} {H : Hp} : ∀ {vs : List V} {xs : List α}, Reps K H vs xs → ∀ {i : Nat} {x : α}, xs[i]? = some x → ∃ v, vs[i]? = some v ∧ rep K H v x
  | _, _, .nil, i, v, e => by simp at e
  | _, _, .cons a b, 0, v, e => by simp at e; subst e; exact ⟨_, rfl, a⟩
  | _, _, .cons a b, i + 1, v, e => by
    obtain ⟨x, h1, h2⟩ := Reps.get' b (i := i) (x := v) (by simpa using e)
    exact ⟨x, by simpa using h1, h2⟩
theorem Reps.snoc {α : Type} [Py α] {K : Fg} {H : Hp} {vs : List V} {xs : List α} {v : V} {x : α} (h : Reps K H vs xs) (r : rep K H v x) : Reps K H (vs ++ [v]) (xs ++ [x]) := Paired.snoc h r
theorem Reps.app {α : Type} [Py α] {K : Fg} {H : Hp} : ∀ {vs ws : List V} {xs ys : List α}, Reps K H vs xs → Reps K H ws ys → Reps K H (vs ++ ws) (xs ++ ys)
  | _, _, _, _, .nil, h => h
  | _, _, _, _, .cons a b, h => .cons a (Reps.app b h)
theorem Reps.rev {α : Type} [Py α] {K : Fg} {H : Hp} : ∀ {vs : List V} {xs : List α}, Reps K H vs xs → Reps K H vs.reverse xs.reverse
  | _, _, .nil => .nil
  | _, _, .cons a b => by simp only [List.reverse_cons]; exact Reps.snoc (Reps.rev b) a
theorem Reps.take {α : Type} [Py α] {K : Fg} {H : Hp} : ∀ (n : Nat) {vs : List V} {xs : List α}, Reps K H vs xs → Reps K H (vs.take n) (xs.take n)
  | 0, _, _, _ => .nil
  | n + 1, _, _, .nil => .nil
  | n + 1, _, _, .cons a b => .cons a (Reps.take n b)
theorem Reps.drop {α : Type} [Py α] {K : Fg} {H : Hp} : ∀ (n : Nat) {vs : List V} {xs : List α}, Reps K H vs xs → Reps K H (vs.drop n) (xs.drop n)
  | 0, _, _, h => h
  | n + 1, _, _, .nil => .nil
  | n + 1, _, _, .cons a b => Reps.drop n b
theorem Reps.set {α : Type} [Py α] {K : Fg} {H : Hp} {v : V} {x : α} (r : rep K H v x) : ∀ {vs : List V} {xs : List α} (i : Nat), Reps K H vs xs → Reps K H (vs.set i v) (xs.set i x)
  | _, _, _, .nil => .nil
  | _, _, 0, .cons a b => .cons r b
  | _, _, i + 1, .cons a b => .cons a (Reps.set r i b)
theorem reps_int {K : Fg} {H : Hp} : ∀ {vs : List V} {ns : List Int}, Reps K H vs ns → vs = ns.map V.int
  | _, _, .nil => rfl
  | _, _, .cons a b => by rw [show _ = _ from a, reps_int b]; rfl
theorem int_reps {K : Fg} {H : Hp} : ∀ (ns : List Int), Reps K H (ns.map V.int) ns
  | [] => .nil
  | _ :: r => .cons rfl (int_reps r)
theorem reps_str {K : Fg} {H : Hp} : ∀ {vs : List V} {ns : List Str}, Reps K H vs ns → vs = ns.map V.str
  | _, _, .nil => rfl
  | _, _, .cons a b => by rw [show _ = _ from a, reps_str b]; rfl
theorem str_reps {K : Fg} {H : Hp} : ∀ (ns : List Str), Reps K H (ns.map V.str) ns
  | [] => .nil
  | _ :: r => .cons rfl (str_reps r)
theorem reps_bl {K : Fg} {H : Hp} : ∀ {vs : List V} {ns : List Bool}, Reps K H vs ns → vs = ns.map V.bl
  | _, _, .nil => rfl
  | _, _, .cons a b => by rw [show _ = _ from a, reps_bl b]; rfl
theorem bl_reps {K : Fg} {H : Hp} : ∀ (ns : List Bool), Reps K H (ns.map V.bl) ns
  | [] => .nil
  | _ :: r => .cons rfl (bl_reps r)
instance {α : Type} [Py α] : Py (List α) := ⟨fun K H v xs => ∃ a vs, v = .ref a ∧ H a = some (.lst vs) ∧ Reps K H vs xs,
  fun e ⟨a, vs, h1, h2, h3⟩ => ⟨a, vs, h1, e.el h2, Reps.mono e h3⟩⟩
instance {α : Type} [Py α] : Py (Tup α) := ⟨fun K H v xs => ∃ a vs, v = .ref a ∧ H a = some (.tup vs) ∧ Reps K H vs xs.items,
  fun e ⟨a, vs, h1, h2, h3⟩ => ⟨a, vs, h1, e.et h2, Reps.mono e h3⟩⟩
instance {α β : Type} [Py α] [Py β] : Py (α × β) := ⟨fun K H v p => ∃ a x y, v = .ref a ∧ H a = some (.tup [x, y]) ∧ rep K H x p.1 ∧ rep K H y p.2,
  fun e ⟨a, x, y, h1, h2, h3, h4⟩ => ⟨a, x, y, h1, e.et h2, Py.mono e h3, Py.mono e h4⟩⟩
instance {α β γ : Type} [Py α] [Py β] [Py γ] : Py (T3 α β γ) := ⟨fun K H v p => ∃ a x y z, v = .ref a ∧ H a = some (.tup [x, y, z]) ∧ rep K H x p.a ∧ rep K H y p.b ∧ rep K H z p.c,
  fun e ⟨a, x, y, z, h1, h2, h3, h4, h5⟩ => ⟨a, x, y, z, h1, e.et h2, Py.mono e h3, Py.mono e h4, Py.mono e h5⟩⟩
instance {α β γ δ : Type} [Py α] [Py β] [Py γ] [Py δ] : Py (T4 α β γ δ) := ⟨fun K H v p => ∃ a x y z w, v = .ref a ∧ H a = some (.tup [x, y, z, w]) ∧ rep K H x p.a ∧ rep K H y p.b ∧ rep K H z p.c ∧ rep K H w p.d,
  fun e ⟨a, x, y, z, w, h1, h2, h3, h4, h5, h6⟩ => ⟨a, x, y, z, w, h1, e.et h2, Py.mono e h3, Py.mono e h4, Py.mono e h5, Py.mono e h6⟩⟩
instance {α : Type} [Py α] : Py (Option α) := ⟨fun K H v o => match o with | none => v = .non | some x => rep K H v x,
  fun {_ _ _ _ o} e h => match o, h with | none, h => h | some _, h => Py.mono e h⟩
class PyKey (κ : Type) where
  key : κ → Key
  inj : ∀ {a b : κ}, key a = key b → a = b
instance : PyKey Int := ⟨.inl, fun h => Sum.inl.inj h⟩
instance : PyKey Str := ⟨.inr, fun h => Sum.inr.inj h⟩
structure Dict (κ α : Type) where
  kv : List (κ × α)
abbrev KReps {κ α : Type} [PyKey κ] [Py α] (K : Fg) (H : Hp) (ks : List (Key × V)) (xs : List (κ × α)) : Prop := Paired (fun p q => p.1 = PyKey.key q.1 ∧ rep K H p.2 q.2) ks xs
theorem KReps.mono {κ α : Type} [PyKey κ] [Py α] {K : Fg} {H H' : Hp} (e : Ext H H') : ∀ {vs : List (Key × V)} {xs : List (κ × α)}, KReps K H vs xs → KReps K H' vs xs
  | _, _, .nil => .nil
  | _, _, .cons a b => .cons ⟨a.1, Py.mono e a.2⟩ (KReps.mono e b)
theorem KReps.len {κ α : Type} [PyKey κ] [Py α] {K : Fg} {H : Hp} {vs : List (Key × V)} {xs : List (κ × α)} (h : KReps K H vs xs) : vs.length = xs.length := Paired.length h
theorem KReps.get {κ α : Type} [PyKey κ] [Py α] {K : Fg} {H : Hp} : ∀ {vs : List (Key × V)} {xs : List (κ × α)}, KReps K H vs xs → ∀ {i : Nat} {k : Key} {v : V}, vs[i]? = some (k, v) → ∃ q, xs[i]? = some q ∧ k = PyKey.key q.1 ∧ rep K H v q.2
  | _, _, .nil, i, k, v, e => by simp at e
  | _, _, .cons a b, 0, k, v, e => by simp at e; subst e; exact ⟨_, rfl, a⟩
  | _, _, .cons a b, i + 1, k, v, e => by
    obtain ⟨x, h1, h2⟩ := KReps.get b (i := i) (k := k) (v := v) (by simpa using e)
    exact ⟨x, by simpa using h1, h2⟩
instance {κ α : Type} [PyKey κ] [Py α] : Py (Dict κ α) := ⟨fun K H v d => ∃ a ks, v = .ref a ∧ Rd H a (.dK ks) ∧ KReps K H ks d.kv,
  fun e ⟨a, vs, h1, h2, h3⟩ => ⟨a, vs, h1, e.rd h2, KReps.mono e h3⟩⟩
theorem key_rep {κ : Type} [PyKey κ] [Py κ] (K : Fg) (H : Hp) (h : ∀ k : κ, rep K H (kV (PyKey.key k)) k) (k : κ) : rep K H (kV (PyKey.key k)) k := h k
class PyKV (κ : Type) extends PyKey κ, Py κ where
  krep : ∀ (K : Fg) (H : Hp) (k : κ), Py.rep K H (kV (key k)) k
  keyv : ∀ {K : Fg} {H : Hp} {v : V} {k : κ}, Py.rep K H v k → v = kV (key k)
instance : PyKV Int := { krep := fun _ _ _ => rfl, keyv := fun h => h }
instance : PyKV Str := { krep := fun _ _ _ => rfl, keyv := fun h => h }
/-! ### data that == tells apart -/
class PyD (α : Type) [DecidableEq α] [Datum α] [Py α] : Prop where
  dp : ∀ {K : Fg} {H : Hp} {v : V} {x : α}, rep K H v x → Dp K H v (Datum.toD x)
theorem reps_dp {α : Type} [DecidableEq α] [Datum α] [Py α] [PyD α] {K : Fg} {H : Hp} : ∀ {vs : List V} {xs : List α}, Reps K H vs xs → DpAll K H vs (xs.map Datum.toD)
  | _, _, .nil => .nil
  | _, _, .cons a b => .cons (PyD.dp a) (reps_dp b)
instance : PyD Int := ⟨fun {K H v x} h => by rw [show v = _ from h]; exact .int x⟩
instance : PyD Bool := ⟨fun {K H v x} h => by rw [show v = _ from h]; exact .bl x⟩
instance : PyD Str := ⟨fun {K H v x} h => by rw [show v = _ from h]; exact .str x⟩
instance : PyD Unit := ⟨fun {K H v x} h => by rw [show v = _ from h]; exact .non⟩
section
variable {α β γ δ : Type} [DecidableEq α] [Datum α] [Py α] [PyD α] [DecidableEq β] [Datum β] [Py β] [PyD β] [DecidableEq γ] [Datum γ] [Py γ] [PyD γ] [DecidableEq δ] [Datum δ] [Py δ] [PyD δ]
instance : PyD (List α) := ⟨fun ⟨a, vs, e, h, r⟩ => by rw [e]; exact .lst (SqL.of h) (reps_dp r)⟩
instance : PyD (Tup α) := ⟨fun ⟨a, vs, e, h, r⟩ => by rw [e]; exact .tup (SqT.of h) (reps_dp r)⟩
instance : PyD (α × β) := ⟨fun ⟨a, x, y, e, h, r1, r2⟩ => by rw [e]; exact .tup (SqT.of h) (.cons (PyD.dp r1) (.cons (PyD.dp r2) .nil))⟩
instance : PyD (T3 α β γ) := ⟨fun ⟨a, x, y, z, e, h, r1, r2, r3⟩ => by rw [e]; exact .tup (SqT.of h) (.cons (PyD.dp r1) (.cons (PyD.dp r2) (.cons (PyD.dp r3) .nil)))⟩
instance : PyD (T4 α β γ δ) := ⟨fun ⟨a, x, y, z, w, e, h, r1, r2, r3, r4⟩ => by rw [e]; exact .tup (SqT.of h) (.cons (PyD.dp r1) (.cons (PyD.dp r2) (.cons (PyD.dp r3) (.cons (PyD.dp r4) .nil))))⟩
end
theorem holds_of {X : Cx} {pins : List (Addr × Obj)} {σ : SS} {H : Hp} {s : Shared} {α : Type} [DecidableEq α] [Datum α] {v : V} {u : Value} {x : α} (I : Inv X pins σ H s) (h : Dp X.K H v (Datum.toD x)) (r : RelV v u) : PySem.W.Holds s.heap u x := Dp.reads I _ v u h r
/-- == of two such of one type -/
def rEqT (K : Fg) (neg : Bool) : R2 := fun x y H Q => ∃ (α : Type) (_ : DecidableEq α) (_ : Datum α) (a b : α), Dp K H x (Datum.toD a) ∧ Dp K H y (Datum.toD b) ∧ Datum.depth α ≤ 60 ∧ Q (.bl (if neg then !decide (a = b) else decide (a = b))) H
def rLtT (K : Fg) : R2 := fun x y H Q => ∃ (α : Type) (_ : DecidableEq α) (_ : DatumOrd α) (a b : α), Dp K H x (Datum.toD a) ∧ Dp K H y (Datum.toD b) ∧ Datum.depth α ≤ 60 ∧ Q (.bl (DatumOrd.lt a b)) H
def rInTL (K : Fg) (neg : Bool) : R2 := fun x y H Q => ∃ (α : Type) (_ : DecidableEq α) (_ : Datum α) (a : α) (b : List α), Dp K H x (Datum.toD a) ∧ Dp K H y (Datum.toD b) ∧ Datum.depth α ≤ 60 ∧ Q (.bl (if neg then !decide (a ∈ b) else decide (a ∈ b))) H
def rInTT (K : Fg) (neg : Bool) : R2 := fun x y H Q => ∃ (α : Type) (_ : DecidableEq α) (_ : Datum α) (a : α) (b : Tup α), Dp K H x (Datum.toD a) ∧ Dp K H y (Datum.toD b) ∧ Datum.depth α ≤ 60 ∧ Q (.bl (if neg then !decide (a ∈ b.items) else decide (a ∈ b.items))) H
section
variable {X : Cx}
theorem op_eqT (hu : X.A.units + 64 < cLine) : OpR X (compareOp .Eq) (rEqT X.K false) := by
  intro pins s σ H x y v u Q I rx ry h
  obtain ⟨α, _, _, a, b, ha, hb, hd, q⟩ := h
  exact PySem.W.eq_datum (holds_of I ha rx) (holds_of I hb ry) (by omega) ⟨.bl _, H, I, rfl, q⟩
theorem op_neT (hu : X.A.units + 64 < cLine) : OpR X (compareOp .NotEq) (rEqT X.K true) := by
  intro pins s σ H x y v u Q I rx ry h
  obtain ⟨α, _, _, a, b, ha, hb, hd, q⟩ := h
  refine PySem.W.ne_datum (holds_of I ha rx) (holds_of I hb ry) (by omega) ⟨.bl _, H, I, ?_, q⟩
  show Value.bool _ = Value.bool _
  simp
theorem op_ltTT (hu : X.A.units + 64 < cLine) : OpR X (compareOp .Lt) (rLtT X.K) := by
  intro pins s σ H x y v u Q I rx ry h
  obtain ⟨α, _, _, a, b, ha, hb, hd, q⟩ := h
  exact PySem.W.lt_datum (holds_of I ha rx) (holds_of I hb ry) (by omega) ⟨.bl _, H, I, rfl, q⟩
theorem op_inTL (hu : X.A.units + 64 < cLine) : OpR X (compareOp .In) (rInTL X.K false) := by
  intro pins s σ H x y v u Q I rx ry h
  obtain ⟨α, _, _, a, b, ha, hb, hd, q⟩ := h
  obtain ⟨l, vs, rfl, hl, H2⟩ := PySem.W.list_of_holds (holds_of I hb ry)
  exact PySem.W.in_list_datum hl H2 (holds_of I ha rx) (by omega) ⟨.bl _, H, I, rfl, q⟩
theorem op_notInTL (hu : X.A.units + 64 < cLine) : OpR X (compareOp .NotIn) (rInTL X.K true) := by
  intro pins s σ H x y v u Q I rx ry h
  obtain ⟨α, _, _, a, b, ha, hb, hd, q⟩ := h
  obtain ⟨l, vs, rfl, hl, H2⟩ := PySem.W.list_of_holds (holds_of I hb ry)
  refine PySem.W.notIn_list_datum hl H2 (holds_of I ha rx) (by omega) ⟨.bl _, H, I, ?_, q⟩
  show Value.bool _ = Value.bool _
  simp
theorem op_inTT (hu : X.A.units + 64 < cLine) : OpR X (compareOp .In) (rInTT X.K false) := by
  intro pins s σ H x y v u Q I rx ry h
  obtain ⟨α, _, _, a, b, ha, hb, hd, q⟩ := h
  obtain ⟨l, vs, rfl, hl, H2⟩ := PySem.W.tup_of_holds (holds_of I hb ry)
  exact PySem.W.in_tuple_datum hl H2 (holds_of I ha rx) (by omega) ⟨.bl _, H, I, rfl, q⟩
theorem op_notInTT (hu : X.A.units + 64 < cLine) : OpR X (compareOp .NotIn) (rInTT X.K true) := by
  intro pins s σ H x y v u Q I rx ry h
  obtain ⟨α, _, _, a, b, ha, hb, hd, q⟩ := h
  obtain ⟨l, vs, rfl, hl, H2⟩ := PySem.W.tup_of_holds (holds_of I hb ry)
  refine PySem.W.notIn_tuple_datum hl H2 (holds_of I ha rx) (by omega) ⟨.bl _, H, I, ?_, q⟩
  show Value.bool _ = Value.bool _
  simp
end
end B
/-! B: what a reading evaluates to in a world -/
namespace B
open PySem L2
open Evl (Ex)
open PySem.W (Tup T3 T4 Datum DatumOrd)

/-- later: what stays is as it was, and no more of it is locked -/
structure On (W W' : Wd) : Prop where
  b : Ex W.B W'.B
  l : ∀ a o, W.B a = some o → W.H a = some o → W'.H a = some o
theorem On.refl (W : Wd) : On W W := ⟨Evl.Ex.refl _, fun _ _ _ h => h⟩
theorem On.trans {W W1 W2 : Wd} (x : On W W1) (y : On W1 W2) : On W W2 := ⟨x.b.trans y.b, fun a o h1 h2 => y.l a o (x.b a o h1) (x.l a o h1 h2)⟩
theorem Md.on {S : List Addr} {W W' : Wd} (g : Md S W W') : On W W' := ⟨g.b, g.l⟩
theorem Stp.on {ε : Ef} {W W' : Wd} (g : Stp ε W W') : On W W' := g.md.on

section
variable {α β γ : Type} [Py α] [Py β] [Py γ] {K : Fg} {σ : SS} {W W' : Wd} {v : V} {x : α} {ε : Ef} {S : List Addr}
theorem rep_g (g : Md S W W') (h : rep K W.B v x) : rep K W'.B v x := rex g.b h
theorem rep_s (g : Stp ε W W') (h : rep K W.B v x) : rep K W'.B v x := rex g.md.b h
theorem rep_on (g : On W W') (h : rep K W.B v x) : rep K W'.B v x := rex g.b h
theorem rep_h (h : rep K W.B v x) : rep K W.H v x := Py.mono W.sub h
end
/-- an unlocked dict that stays -/
def DictAt {κ α : Type} [PyKey κ] [Py α] (K : Fg) (W : Wd) (v : V) (d : Dict κ α) : Prop :=
  ∃ a ks, v = .ref a ∧ W.B a = some (.dK ks) ∧ W.H a = some (.dK ks) ∧ KReps K W.B ks d.kv
section
variable {κ α : Type} [PyKey κ] [Py α] {K : Fg} {W W' : Wd} {v : V} {d : Dict κ α} {ε : Ef} {S : List Addr}
theorem DictAt.rep (h : DictAt K W v d) : rep K W.B v d := by
  obtain ⟨a, ks, h1, h2, h3, h4⟩ := h
  exact ⟨a, ks, h1, .inl h2, h4⟩
theorem DictAt.on (g : On W W') (h : DictAt K W v d) : DictAt K W' v d := by
  obtain ⟨a, ks, h1, h2, h3, h4⟩ := h
  exact ⟨a, ks, h1, g.b _ _ h2, g.l _ _ h2 h3, KReps.mono (exExt g.b) h4⟩
theorem DictAt.g (g : Md S W W') (h : DictAt K W v d) : DictAt K W' v d := h.on g.on
theorem DictAt.s (g : Stp ε W W') (h : DictAt K W v d) : DictAt K W' v d := h.on g.on
end

theorem nodup_le {α : Type} [DecidableEq α] : ∀ {l m : List α}, l.Nodup → (∀ x ∈ l, x ∈ m) → l.length ≤ m.length
  | [], _, _, _ => Nat.zero_le _
  | x :: l, m, n, h => by
    rw [List.nodup_cons] at n
    have hx := h x List.mem_cons_self
    have := nodup_le (m := m.erase x) n.2 fun y hy => (List.mem_erase_of_ne (fun (e : y = x) => n.1 (e ▸ hy))).mpr (h y (List.mem_cons_of_mem _ hy))
    rw [List.length_erase_of_mem hx] at this
    have : 0 < m.length := List.length_pos_of_mem hx
    rw [List.length_cons]
    omega
/-! tables -/
section
variable {κ α : Type} [DecidableEq κ]
def klook (kv : List (κ × α)) (k : κ) : Option α := (kv.find? fun q => decide (q.1 = k)).map (·.2)
def kput (kv : List (κ × α)) (k : κ) (v : α) : List (κ × α) := if (kv.any fun q => decide (q.1 = k)) = true then kv.map (fun q => if q.1 = k then (q.1, v) else q) else kv ++ [(k, v)]
def kdrop (kv : List (κ × α)) (k : κ) : List (κ × α) := kv.filter fun q => decide (q.1 ≠ k)
theorem klook_nil {k : κ} : klook ([] : List (κ × α)) k = none := rfl
theorem klook_cons {q : κ × α} {kv : List (κ × α)} {k : κ} : klook (q :: kv) k = if q.1 = k then some q.2 else klook kv k := by
  unfold klook
  rw [List.find?_cons]
  by_cases h : q.1 = k
  · simp [h]
  · simp [h]
theorem klook_none {k : κ} : ∀ {kv : List (κ × α)}, klook kv k = none ↔ k ∉ kv.map (·.1)
  | [] => by simp [klook_nil]
  | q :: kv => by
    rw [klook_cons]
    by_cases h : q.1 = k
    · simp [h]
    · rw [if_neg h, klook_none, List.map_cons, List.mem_cons, not_or]
      exact ⟨fun z => ⟨fun e => h e.symm, z⟩, fun z => z.2⟩
theorem klook_mem {k : κ} {v : α} : ∀ {kv : List (κ × α)}, klook kv k = some v → (k, v) ∈ kv
  | [], h => by simp [klook_nil] at h
  | q :: kv, h => by
    rw [klook_cons] at h
    by_cases e : q.1 = k
    · rw [if_pos e] at h
      have : q = (k, v) := Prod.ext e (Option.some.inj h)
      rw [this]; exact List.mem_cons_self
    · rw [if_neg e] at h; exact List.mem_cons_of_mem _ (klook_mem h)
theorem klook_of_mem {k : κ} {v : α} : ∀ {kv : List (κ × α)}, (kv.map (·.1)).Nodup → (k, v) ∈ kv → klook kv k = some v
  | [], _, h => by simp at h
  | q :: kv, n, h => by
    rw [List.map_cons, List.nodup_cons] at n
    rw [klook_cons]
    rcases List.mem_cons.mp h with e | h
    · rw [← e]; simp
    · have : q.1 ≠ k := fun z => n.1 (List.mem_map.mpr ⟨(k, v), h, z.symm⟩)
      rw [if_neg this]; exact klook_of_mem n.2 h
theorem kput_mem {kv : List (κ × α)} {k : κ} {v : α} {q : κ × α} (h : q ∈ kput kv k v) : q ∈ kv ∨ q = (k, v) := by
  unfold kput at h
  split at h
  · obtain ⟨q', h1, h2⟩ := List.mem_map.mp h
    by_cases e : q'.1 = k
    · rw [if_pos e] at h2; exact .inr (by rw [← h2, e])
    · rw [if_neg e] at h2; exact .inl (h2 ▸ h1)
  · rcases List.mem_append.mp h with h | h
    · exact .inl h
    · exact .inr (by simpa using h)
theorem kput_keys_nodup {kv : List (κ × α)} {k : κ} {v : α} (n : (kv.map (·.1)).Nodup) : ((kput kv k v).map (·.1)).Nodup := by
  unfold kput
  split
  · have : (kv.map (fun q => if q.1 = k then (q.1, v) else q)).map (·.1) = kv.map (·.1) := by
      rw [List.map_map]
      refine List.map_congr_left fun q _ => ?_
      show (if q.1 = k then (q.1, v) else q).1 = q.1
      split <;> rfl
    rw [this]; exact n
  · rename_i h
    rw [List.map_append, List.map_cons, List.map_nil, List.nodup_append]
    refine ⟨n, by simp, fun a ha b hb => ?_⟩
    have e : b = k := by simpa using hb
    subst e
    intro z
    subst z
    obtain ⟨q, h1, h2⟩ := List.mem_map.mp ha
    exact h (List.any_eq_true.mpr ⟨q, h1, by simp [h2]⟩)
theorem kput_len (kv : List (κ × α)) (k : κ) (v : α) : (kput kv k v).length ≤ kv.length + 1 := by
  unfold kput
  split <;> simp
theorem klook_put (kv : List (κ × α)) (k j : κ) (v : α) : klook (kput kv k v) j = if j = k then some v else klook kv j := by
  unfold kput
  by_cases h : (kv.any fun q => decide (q.1 = k)) = true
  · rw [if_pos h]
    have main : ∀ kv : List (κ × α), klook (kv.map (fun q => if q.1 = k then (q.1, v) else q)) j = if j = k then (if k ∈ kv.map (·.1) then some v else none) else klook kv j := by
      intro kv
      induction kv with
      | nil => simp [klook_nil]
      | cons q kv ih =>
        rw [List.map_cons, klook_cons, ih, klook_cons, List.map_cons]
        by_cases e : q.1 = k
        · rw [if_pos e]
          by_cases e2 : j = k
          · subst e2; simp [e]
          · have : ¬ q.1 = j := fun z => e2 (z.symm.trans e)
            simp [e2, this]
        · rw [if_neg e]
          by_cases e2 : j = k
          · subst e2
            have : ¬ j = q.1 := fun z => e z.symm
            rw [if_neg e, if_pos rfl, if_pos rfl]
            by_cases hm : j ∈ kv.map (·.1)
            · rw [if_pos hm, if_pos (List.mem_cons_of_mem _ hm)]
            · rw [if_neg hm, if_neg (fun z => (List.mem_cons.mp z).elim this hm)]
          · simp [e2]
    rw [main]
    obtain ⟨q, h1, h2⟩ := List.any_eq_true.mp h
    have : k ∈ kv.map (·.1) := List.mem_map.mpr ⟨q, h1, of_decide_eq_true h2⟩
    rw [if_pos this]
  · rw [if_neg h]
    have hk : k ∉ kv.map (·.1) := fun z => by
      obtain ⟨q, h1, h2⟩ := List.mem_map.mp z
      exact h (List.any_eq_true.mpr ⟨q, h1, by simp [h2]⟩)
    clear h
    induction kv with
    | nil =>
      rw [List.nil_append, klook_cons, klook_nil]
      by_cases e : j = k
      · simp [e]
      · have : ¬ k = j := fun z => e z.symm
        simp [e, this]
    | cons q kv ih =>
      rw [List.map_cons, List.mem_cons, not_or] at hk
      rw [List.cons_append, klook_cons, ih hk.2, klook_cons]
      by_cases e : q.1 = j
      · have : ¬ j = k := fun z => hk.1 (z.symm.trans e.symm)
        simp [e, this]
      · simp [e]
end
section
variable {κ α : Type} [DecidableEq κ] [PyKey κ] [Py α] {K : Fg} {H : Hp} {ks : List (Key × V)} {kv : List (κ × α)}
theorem key_eq {a b : κ} : (PyKey.key a : Key) = PyKey.key b ↔ a = b := ⟨fun h => PyKey.inj h, fun h => by rw [h]⟩
theorem KReps.any (r : KReps K H ks kv) (k : κ) : (ks.any fun q => decide (q.1 = PyKey.key k)) = kv.any fun q => decide (q.1 = k) := by
  induction r with
  | nil => rfl
  | cons a b ih =>
    rw [List.any_cons, List.any_cons, ih, a.1]
    congr 1
    exact decide_eq_decide.mpr key_eq
theorem KReps.put {v : V} {x : α} (r : KReps K H ks kv) (k : κ) (rv : rep K H v x) : KReps K H (putK ks (PyKey.key k) v) (kput kv k x) := by
  unfold putK kput
  rw [r.any k]
  split
  · rename_i hx
    clear hx
    induction r with
    | nil => exact .nil
    | @cons a b l1 l2 h t ih =>
      rw [List.map_cons, List.map_cons]
      refine .cons ?_ ih
      by_cases e : b.1 = k
      · have : a.1 = PyKey.key k := by rw [h.1, e]
        rw [if_pos e, if_pos this]
        exact ⟨h.1, rv⟩
      · have : ¬ a.1 = PyKey.key k := fun z => e (PyKey.inj (h.1.symm.trans z))
        rw [if_neg e, if_neg this]
        exact h
  · exact Paired.snoc r ⟨rfl, rv⟩
theorem KReps.none (r : KReps K H ks kv) {k : κ} (h : klook kv k = none) : valV ks (PyKey.key k) = none := by
  induction r with
  | nil => rfl
  | @cons a b l1 l2 hh t ih =>
    rw [klook_cons] at h
    by_cases e : b.1 = k
    · rw [if_pos e] at h; cases h
    · rw [if_neg e] at h
      rw [valV_neg (fun z => e (PyKey.inj (hh.1.symm.trans z)))]
      exact ih h
theorem KReps.some (r : KReps K H ks kv) {k : κ} {x : α} (h : klook kv k = some x) : ∃ v, valV ks (PyKey.key k) = some v ∧ rep K H v x := by
  induction r with
  | nil => simp [klook_nil] at h
  | @cons a b l1 l2 hh t ih =>
    rw [klook_cons] at h
    by_cases e : b.1 = k
    · rw [if_pos e] at h
      cases h
      exact ⟨a.2, valV_pos (by rw [hh.1, e]), hh.2⟩
    · rw [if_neg e] at h
      obtain ⟨v, h1, h2⟩ := ih h
      exact ⟨v, by rw [valV_neg (fun z => e (PyKey.inj (hh.1.symm.trans z)))]; exact h1, h2⟩
theorem KReps.drop (r : KReps K H ks kv) (k : κ) : KReps K H (dropK ks (PyKey.key k)) (kdrop kv k) := by
  unfold dropK kdrop
  induction r with
  | nil => exact .nil
  | @cons a b l1 l2 hh t ih =>
    rw [List.filter_cons, List.filter_cons]
    by_cases e : b.1 = k
    · have : a.1 = PyKey.key k := by rw [hh.1, e]
      simp only [e, this, ne_eq, not_true_eq_false, decide_false, Bool.false_eq_true, if_false]
      exact ih
    · have : ¬ a.1 = PyKey.key k := fun z => e (PyKey.inj (hh.1.symm.trans z))
      simp only [e, this, ne_eq, not_false_eq_true, decide_true, if_true]
      exact .cons hh ih
end
/-- what stands at p shall stay -/
def Wd.fix (W : Wd) (p : Addr) (o : HO) (h : W.H p = some o) : Wd := ⟨upd W.B p o, W.H, fun a u e => by
  by_cases q : a = p
  · subst q; rw [upd_same] at e; cases e; exact .inl h
  · rw [upd_ne q] at e; exact W.sub a u e⟩
theorem md_fix {S : List Addr} {W W' : Wd} (g : Md S W W') {p : Addr} {o : HO} (h : W'.H p = some o) (n : W'.B p = none) (f : W.H p = none) : Md S W (W'.fix p o h) := by
  refine ⟨fun a u e => ?_, fun a u e1 e2 => g.l a u e1 e2, g.o, fun a ha => ?_, g.d, g.n⟩
  · have q : a ≠ p := fun z => by rw [z] at e; rw [W.free f] at e; cases e
    show upd W'.B p o a = some u
    rw [upd_ne q]; exact g.b a u e
  · have q : a ≠ p := fun z => ha.ne (by rw [z]; exact f)
    show upd W'.B p o a = W.B a
    rw [upd_ne q]; exact g.m a ha
theorem ex_fix {W : Wd} {p : Addr} {o : HO} (h : W.H p = some o) (n : W.B p = none) : Ex W.B (W.fix p o h).B := fun a u e => by
  have q : a ≠ p := fun z => by rw [z, n] at e; cases e
  show upd W.B p o a = some u
  rw [upd_ne q]; exact e
theorem md_mut {S : List Addr} {W W' : Wd} (g : Md S W W') {p : Addr} {o : HO} (n : W'.B p = none) (f : W.H p = none) : Md S W (W'.put p o n) := by
  refine ⟨g.b, fun a u e1 e2 => ?_, fun a u e1 e2 => ?_, g.m, fun a ha => ?_, fun a ha => ?_⟩
  · have q : a ≠ p := fun z => by rw [z, f] at e2; cases e2
    show upd W'.H p o a = some u
    rw [upd_ne q]; exact g.l a u e1 e2
  · have q : a ≠ p := fun z => by rw [z, f] at e2; cases e2
    show upd W'.H p o a = some u
    rw [upd_ne q]; exact g.o a u e1 e2
  · show upd W'.H p o a ≠ none
    by_cases q : a = p
    · rw [q, upd_same]; exact fun z => by cases z
    · rw [upd_ne q]; exact g.d a ha
  · have q : a ≠ p := fun z => ha.ne (by rw [z]; exact f)
    obtain ⟨u, e, hu⟩ := g.n a ha
    exact ⟨u, (upd_ne q).trans e, hu⟩
/-- what I tells stays where only p, which is none of S, changes -/
theorem i_put {ε : Ef} {W : Wd} {p : Addr} {o : HO} (hS : p ∉ ε.S) (i : ε.I W) (n : W.B p = none) : ε.I (W.put p o n) :=
  ε.mv W _ (Evl.Ex.refl _) (fun a h1 _ => ⟨upd_ne fun e => hS (e ▸ h1), rfl⟩) i
theorem i_fix {ε : Ef} {W : Wd} {p : Addr} {o : HO} (hS : p ∉ ε.S) (i : ε.I W) (h : W.H p = some o) (n : W.B p = none) : ε.I (W.fix p o h) :=
  ε.mv W _ (ex_fix h n) (fun a h1 _ => ⟨rfl, upd_ne fun e => hS (e ▸ h1)⟩) i


/-! ### expressions -/
/-- a value of which P is known -/
def EvP (ε : Ef) (te : TE) (σ : SS) (W : Wd) (P : V → Wd → Prop) : Prop := ∀ W1, Stp ε W W1 → ∀ Q : VK, (∀ v W2, Stp ε W1 W2 → P v W2 → Q v W2.H) → te σ W1.H Q
def EvR {α : Type} [Py α] (ε : Ef) (K : Fg) (te : TE) (σ : SS) (W : Wd) (x : α) : Prop :=
  ∀ W1, Stp ε W W1 → ∀ Q : VK, (∀ v W2, Stp ε W1 W2 → rep K W2.B v x → Q v W2.H) → te σ W1.H Q
/-- a dict that is not locked -/
def EvD {κ α : Type} [PyKey κ] [Py α] (ε : Ef) (K : Fg) (te : TE) (σ : SS) (W : Wd) (d : Dict κ α) : Prop :=
  ∀ W1, Stp ε W W1 → ∀ Q : VK, (∀ v W2, Stp ε W1 W2 → DictAt K W2 v d → Q v W2.H) → te σ W1.H Q
def EvT (ε : Ef) (tt : TT) (σ : SS) (W : Wd) (b : Bool) : Prop :=
  ∀ W1, Stp ε W W1 → ∀ Q : Bool → Hp → Prop, (∀ W2, Stp ε W1 W2 → Q b W2.H) → tt σ W1.H Q
def EvAs {α : Type} [Py α] (ε : Ef) (K : Fg) (ta : TA) (σ : SS) (W : Wd) (xs : List α) : Prop :=
  ∀ W1, Stp ε W W1 → ∀ Q : List V → Hp → Prop, (∀ vs W2, Stp ε W1 W2 → Reps K W2.B vs xs → Q vs W2.H) → ta σ W1.H Q
def EvO (ε : Ef) (to : TO) (σ : SS) (W : Wd) (o : Option Int) : Prop := ∀ W1, Stp ε W W1 → ∀ Q : Option Int → Hp → Prop, (∀ W2, Stp ε W1 W2 → Q o W2.H) → to σ W1.H Q
/-- an operation on values, at any later world -/
def RO {α β γ : Type} [Py α] [Py β] [Py γ] (K : Fg) (r : R2) (x : α) (y : β) (z : γ) : Prop :=
  ∀ v u W1, rep K W1.B v x → rep K W1.B u y → ∀ Q : VK, (∀ w W2, Grow W1 W2 → rep K W2.B w z → Q w W2.H) → r v u W1.H Q
def RU {α β : Type} [Py α] [Py β] (K : Fg) (r : V → Hp → VK → Prop) (x : α) (y : β) : Prop :=
  ∀ v W1, rep K W1.B v x → ∀ Q : VK, (∀ w W2, Grow W1 W2 → rep K W2.B w y → Q w W2.H) → r v W1.H Q
def RC1 {α β : Type} [Py α] [Py β] (K : Fg) (r : List V → Hp → VK → Prop) (x : α) (y : β) : Prop :=
  ∀ v W1, rep K W1.B v x → ∀ Q : VK, (∀ w W2, Grow W1 W2 → rep K W2.B w y → Q w W2.H) → r [v] W1.H Q
def RC2 {α β γ : Type} [Py α] [Py β] [Py γ] (K : Fg) (r : List V → Hp → VK → Prop) (x : α) (y : β) (z : γ) : Prop :=
  ∀ v u W1, rep K W1.B v x → rep K W1.B u y → ∀ Q : VK, (∀ w W2, Grow W1 W2 → rep K W2.B w z → Q w W2.H) → r [v, u] W1.H Q
section
variable {α β γ : Type} [Py α] [Py β] [Py γ] {K : Fg} {σ : SS} {W W' : Wd} {v : V} {x : α} {y : β} {z : γ} {ta tb te : TE} {r : R2} {t u : TT} {ε : Ef}
theorem EvR.p (h : EvR ε K te σ W x) : EvP ε te σ W (fun v W => rep K W.B v x) := h
theorem EvP.toR (h : EvP ε te σ W (fun v W => rep K W.B v x)) : EvR ε K te σ W x := h
theorem EvR.s (g : Stp ε W W') (h : EvR ε K te σ W x) : EvR ε K te σ W' x := fun W1 g1 => h W1 (g.trans g1)
theorem EvT.s {b : Bool} (g : Stp ε W W') (h : EvT ε t σ W b) : EvT ε t σ W' b := fun W1 g1 => h W1 (g.trans g1)
theorem EvR.is {x' : α} (h : EvR ε K te σ W x) (e : x = x') : EvR ε K te σ W x' := e ▸ h
theorem EvT.is {b b' : Bool} (h : EvT ε t σ W b) (e : b = b') : EvT ε t σ W b' := e ▸ h
theorem EvD.rep {κ : Type} [PyKey κ] {d : Dict κ α} (h : EvD ε K te σ W d) : EvR ε K te σ W d := fun W1 g1 Q k => h W1 g1 Q fun v W2 g2 r => k v W2 g2 r.rep
/-- what leaves the heap as it is, whatever the effect around -/
theorem ev_pure (h : ∀ W1, On W W1 → EvR pur K te σ W1 x) : EvR ε K te σ W x := fun W1 g1 Q k => h W1 g1.on W1 (.start trivial) Q fun v W2 g2 r => k v W2 (g1.rf.and g2.pure) r
theorem ev_pureD {κ : Type} [PyKey κ] {d : Dict κ α} (h : ∀ W1, On W W1 → EvD pur K te σ W1 d) : EvD ε K te σ W d := fun W1 g1 Q k => h W1 g1.on W1 (.start trivial) Q fun v W2 g2 r => k v W2 (g1.rf.and g2.pure) r
theorem et_pure {b : Bool} (h : ∀ W1, On W W1 → EvT pur t σ W1 b) : EvT ε t σ W b := fun W1 g1 Q k => h W1 g1.on W1 (.start trivial) Q fun W2 g2 => k W2 (g1.rf.and g2.pure)
theorem ev_var {i : Nat} (h : σ[i]? = some (some v)) (r : rep K W.B v x) : EvR ε K (tVar i) σ W x := fun W1 g1 Q k => ⟨v, h, k v W1 g1.rf (rep_s g1 r)⟩
theorem ev_dvar {κ : Type} [PyKey κ] {d : Dict κ α} {i : Nat} (h : σ[i]? = some (some v)) (r : DictAt K W v d) : EvD ε K (tVar i) σ W d := fun W1 g1 Q k => ⟨v, h, k v W1 g1.rf (r.s g1)⟩
theorem ev_int {n : Int} : EvR ε K (tC (.int n)) σ W n := fun W1 g1 Q k => k _ W1 g1.rf rfl
theorem ev_bl {n : Bool} : EvR ε K (tC (.bl n)) σ W n := fun W1 g1 Q k => k _ W1 g1.rf rfl
theorem ev_str {n : Str} : EvR ε K (tC (.str n)) σ W n := fun W1 g1 Q k => k _ W1 g1.rf rfl
theorem ev_non : EvR ε K (tC .non) σ W () := fun W1 g1 Q k => k _ W1 g1.rf rfl
theorem ev_raw {n : V} : EvR ε K (tC n) σ W (Raw.mk n) := fun W1 g1 Q k => k _ W1 g1.rf rfl
theorem ev_rvar {i : Nat} (h : σ[i]? = some (some v)) : EvR ε K (tVar i) σ W (Raw.mk v) := fun W1 g1 Q k => ⟨v, h, k v W1 g1.rf rfl⟩
theorem ev_op (ha : EvR ε K ta σ W x) (hb : EvR ε K tb σ W y) (hr : RO K r x y z) : EvR ε K (tOp r ta tb) σ W z := fun W1 g1 Q k =>
  ha W1 g1 _ fun a W2 g2 ra => hb W2 (g1.trans g2) _ fun b W3 g3 rb => hr a b W3 (rep_s g3 ra) rb Q fun w W4 g4 rw' => k w W4 ((g2.trans g3).and g4) rw'
theorem ev_un {r : V → Hp → VK → Prop} (ha : EvR ε K ta σ W x) (hr : RU K r x y) : EvR ε K (tUn r ta) σ W y := fun W1 g1 Q k =>
  ha W1 g1 _ fun a W2 g2 ra => hr a W2 ra Q fun w W4 g4 rw' => k w W4 (g2.and g4) rw'
theorem ev_cb1 {r : List V → Hp → VK → Prop} (ha : EvR ε K ta σ W x) (hr : RC1 K r x y) : EvR ε K (tCB r (tCons ta tNil)) σ W y := fun W1 g1 Q k =>
  ha W1 g1 _ fun a W2 g2 ra => hr a W2 ra Q fun w W4 g4 rw' => k w W4 (g2.and g4) rw'
theorem ev_cb2 {r : List V → Hp → VK → Prop} (ha : EvR ε K ta σ W x) (hb : EvR ε K tb σ W y) (hr : RC2 K r x y z) : EvR ε K (tCB r (tCons ta (tCons tb tNil))) σ W z := fun W1 g1 Q k =>
  ha W1 g1 _ fun a W2 g2 ra => hb W2 (g1.trans g2) _ fun b W3 g3 rb => hr a b W3 (rep_s g3 ra) rb Q fun w W4 g4 rw' => k w W4 ((g2.trans g3).and g4) rw'
/-- a value that leaves the heap as it is -/
theorem ro_val (f : ∀ (v u : V) (W1 : Wd), rep K W1.B v x → rep K W1.B u y → ∀ Q : VK, (∀ w, rep K W1.B w z → Q w W1.H) → r v u W1.H Q) : RO K r x y z :=
  fun v u W1 rv ru Q k => f v u W1 rv ru Q fun w rw' => k w W1 (.refl _ _) rw'
theorem ro_I0 {g : Int → Int → Int} {i j : Int} : RO K (rI0 fun i j => .int (g i j)) i j (g i j) := ro_val fun _ _ _ rv ru Q k => ⟨i, j, rv, ru, k _ rfl⟩
theorem ro_B0 {g : Int → Int → Bool} {i j : Int} : RO K (rI0 fun i j => .bl (g i j)) i j (g i j) := ro_val fun _ _ _ rv ru Q k => ⟨i, j, rv, ru, k _ rfl⟩
theorem ro_I {C : Int → Int → Prop} {g : Int → Int → Int} {i j : Int} (hc : C i j) : RO K (rI C fun i j => .int (g i j)) i j (g i j) := ro_val fun _ _ _ rv ru Q k => ⟨i, j, rv, ru, hc, k _ rfl⟩
theorem ru_neg {i : Int} : RU K (rU fun i => .int (-i)) i (-i) := fun v W1 rv Q k => ⟨i, rv, k _ W1 (.refl _ _) rfl⟩
theorem ro_eqI {i j : Int} : RO K rEq i j (decide (i = j)) := ro_val fun v u _ rv ru Q k => by
  have e1 : v = .int i := rv
  have e2 : u = .int j := ru
  subst e1; subst e2
  refine ⟨rfl, k _ ?_⟩
  show V.bl _ = V.bl _
  congr 1
  simp
theorem ro_neI {i j : Int} : RO K rNe i j (!decide (i = j)) := ro_val fun v u _ rv ru Q k => by
  have e1 : v = .int i := rv
  have e2 : u = .int j := ru
  subst e1; subst e2
  refine ⟨rfl, k _ ?_⟩
  show V.bl _ = V.bl _
  congr 1
  simp
theorem ro_eqS {i j : Str} : RO K rEq i j (decide (i = j)) := ro_val fun v u _ rv ru Q k => by
  have e1 : v = .str i := rv
  have e2 : u = .str j := ru
  subst e1; subst e2
  refine ⟨rfl, k _ ?_⟩
  show V.bl _ = V.bl _
  congr 1
  simp
theorem ro_neS {i j : Str} : RO K rNe i j (!decide (i = j)) := ro_val fun v u _ rv ru Q k => by
  have e1 : v = .str i := rv
  have e2 : u = .str j := ru
  subst e1; subst e2
  refine ⟨rfl, k _ ?_⟩
  show V.bl _ = V.bl _
  congr 1
  simp
theorem ro_eqB {i j : Bool} : RO K rEq i j (decide (i = j)) := ro_val fun v u _ rv ru Q k => by
  have e1 : v = .bl i := rv
  have e2 : u = .bl j := ru
  subst e1; subst e2
  refine ⟨rfl, k _ ?_⟩
  show V.bl _ = V.bl _
  congr 1
  simp
theorem ro_neB {i j : Bool} : RO K rNe i j (!decide (i = j)) := ro_val fun v u _ rv ru Q k => by
  have e1 : v = .bl i := rv
  have e2 : u = .bl j := ru
  subst e1; subst e2
  refine ⟨rfl, k _ ?_⟩
  show V.bl _ = V.bl _
  congr 1
  simp
/-! places -/
theorem atI_ix {ζ : Type} {xs : List ζ} {i : Int} {v : ζ} (h : atI xs i = some v) : ∃ j, ixN xs.length i = some j ∧ xs[j]? = some v := by
  unfold atI at h
  cases e : ixN xs.length i with
  | none => rw [e] at h; cases h
  | some j => rw [e] at h; exact ⟨j, rfl, h⟩
theorem reps_at {vs : List V} {xs : List α} {H : Hp} {i : Int} (h : Reps K H vs xs) (e : atI xs i = some x) : ∃ v, atI vs i = some v ∧ rep K H v x := by
  obtain ⟨j, e1, e2⟩ := atI_ix e
  obtain ⟨v, h1, h2⟩ := Reps.get' h e2
  refine ⟨v, ?_, h2⟩
  unfold atI
  rw [Reps.len h, e1]
  exact h1
theorem ro_ixL {xs : List α} {i : Int} (h : atI xs i = some x) : RO K (rIxL K) xs i x := ro_val fun v u W1 rv ru Q k => by
  obtain ⟨a, vs, e1, s, r⟩ := rv
  have e2 : u = .int i := ru
  subst e1; subst e2
  obtain ⟨w, h1, h2⟩ := reps_at r h
  exact ⟨a, vs, i, w, rfl, rfl, SqL.of (W1.sub.el s), h1, k w h2⟩
theorem ro_ixT {xs : Tup α} {i : Int} (h : atI xs.items i = some x) : RO K (rIxT K) xs i x := ro_val fun v u W1 rv ru Q k => by
  obtain ⟨a, vs, e1, s, r⟩ := rv
  have e2 : u = .int i := ru
  subst e1; subst e2
  obtain ⟨w, h1, h2⟩ := reps_at r h
  exact ⟨a, vs, i, w, rfl, rfl, SqT.of (W1.sub.et s), h1, k w h2⟩
theorem ro_ixP0 {p : α × β} : RO K (rIxT K) p (0 : Int) p.1 := ro_val fun v u W1 rv ru Q k => by
  obtain ⟨a, x, y, e1, s, r1, r2⟩ := rv
  have e2 : u = .int 0 := ru
  subst e1; subst e2
  exact ⟨a, _, 0, x, rfl, rfl, SqT.of (W1.sub.et s), rfl, k x r1⟩
theorem ro_ixP1 {p : α × β} : RO K (rIxT K) p (1 : Int) p.2 := ro_val fun v u W1 rv ru Q k => by
  obtain ⟨a, x, y, e1, s, r1, r2⟩ := rv
  have e2 : u = .int 1 := ru
  subst e1; subst e2
  exact ⟨a, _, 1, y, rfl, rfl, SqT.of (W1.sub.et s), rfl, k y r2⟩
theorem ro_eqT [DecidableEq α] [Datum α] [PyD α] {x y : α} (hd : Datum.depth α ≤ 60) : RO K (rEqT K false) x y (decide (x = y)) := ro_val fun v u W1 rv ru Q k => ⟨α, _, _, x, y, PyD.dp (rep_h rv), PyD.dp (rep_h ru), hd, k _ rfl⟩
theorem ro_neT [DecidableEq α] [Datum α] [PyD α] {x y : α} (hd : Datum.depth α ≤ 60) : RO K (rEqT K true) x y (!decide (x = y)) := ro_val fun v u W1 rv ru Q k => ⟨α, _, _, x, y, PyD.dp (rep_h rv), PyD.dp (rep_h ru), hd, k _ rfl⟩
theorem ro_ltT [DecidableEq α] [DatumOrd α] [PyD α] {x y : α} (hd : Datum.depth α ≤ 60) : RO K (rLtT K) x y (DatumOrd.lt x y) := ro_val fun v u W1 rv ru Q k => ⟨α, _, _, x, y, PyD.dp (rep_h rv), PyD.dp (rep_h ru), hd, k _ rfl⟩
theorem ro_inL [DecidableEq α] [Datum α] [PyD α] {x : α} {y : List α} (hd : Datum.depth α ≤ 60) : RO K (rInTL K false) x y (decide (x ∈ y)) := ro_val fun v u W1 rv ru Q k => ⟨α, _, _, x, y, PyD.dp (rep_h rv), PyD.dp (rep_h ru), hd, k _ rfl⟩
theorem ro_ninL [DecidableEq α] [Datum α] [PyD α] {x : α} {y : List α} (hd : Datum.depth α ≤ 60) : RO K (rInTL K true) x y (!decide (x ∈ y)) := ro_val fun v u W1 rv ru Q k => ⟨α, _, _, x, y, PyD.dp (rep_h rv), PyD.dp (rep_h ru), hd, k _ rfl⟩
theorem ro_inT [DecidableEq α] [Datum α] [PyD α] {x : α} {y : Tup α} (hd : Datum.depth α ≤ 60) : RO K (rInTT K false) x y (decide (x ∈ y.items)) := ro_val fun v u W1 rv ru Q k => ⟨α, _, _, x, y, PyD.dp (rep_h rv), PyD.dp (rep_h ru), hd, k _ rfl⟩
theorem ro_ninT [DecidableEq α] [Datum α] [PyD α] {x : α} {y : Tup α} (hd : Datum.depth α ≤ 60) : RO K (rInTT K true) x y (!decide (x ∈ y.items)) := ro_val fun v u W1 rv ru Q k => ⟨α, _, _, x, y, PyD.dp (rep_h rv), PyD.dp (rep_h ru), hd, k _ rfl⟩
/-- a new list that may change -/
def EvN (ε : Ef) (K : Fg) (te : TE) (σ : SS) (W : Wd) (xs : List α) : Prop :=
  ∀ W1, Stp ε W W1 → ∀ Q : VK, (∀ p vs W2, Stp ε W1 W2 → W1.H p = none → W2.B p = none → W2.H p = some (.lst vs) → Reps K W2.B vs xs → Q (.ref p) W2.H) → te σ W1.H Q
theorem Stp.fix {W W' : Wd} (g : Stp ε W W') {p : Addr} {o : HO} (f : W.H p = none) (i : ε.I W) (h : W'.H p = some o) (n : W'.B p = none) : Stp ε W (W'.fix p o h) :=
  ⟨md_fix g.md h n f, i_fix (Ef.off i f) g.i h n⟩
theorem EvN.toR {xs : List α} (h : EvN ε K te σ W xs) : EvR ε K te σ W xs := fun W1 g1 Q k => h W1 g1 Q fun p vs W2 g2 f n e r =>
  k _ (W2.fix p _ e) (g2.fix f g1.i e n) ⟨p, vs, rfl, upd_same, Reps.mono (exExt (ex_fix e n)) r⟩
/-! displays -/
theorem ea_nil : EvAs ε K tNil σ W ([] : List α) := fun W1 g1 Q k => k [] W1 g1.rf .nil
theorem ea_cons {tr : TA} {xs : List α} (h : EvR ε K ta σ W x) (hr : EvAs ε K tr σ W xs) : EvAs ε K (tCons ta tr) σ W (x :: xs) := fun W1 g1 Q k =>
  h W1 g1 _ fun a W2 g2 ra => hr W2 (g1.trans g2) _ fun vs W3 g3 rs => k (a :: vs) W3 (g2.trans g3) (.cons (rep_s g3 ra) rs)
theorem ev_lst {ta : TA} {xs : List α} (h : EvAs ε K ta σ W xs) (hl : xs.length ≤ 100000) : EvR ε K (tLst ta) σ W xs := fun W1 g1 Q k =>
  h W1 g1 _ fun vs W2 g2 rs => ⟨Evl.sz_of (by rw [Reps.len rs]; exact hl), fun p hp => k _ (W2.add p (.lst vs)) (g2.and (W2.grow_add hp)) ⟨p, vs, rfl, upd_same, Reps.mono (exExt (W2.grow_add hp).b) rs⟩⟩
theorem en_lst {ta : TA} {xs : List α} (h : EvAs ε K ta σ W xs) (hl : xs.length ≤ 100000) : EvN ε K (tLst ta) σ W xs := fun W1 g1 Q k =>
  h W1 g1 _ fun vs W2 g2 rs => ⟨Evl.sz_of (by rw [Reps.len rs]; exact hl), fun p hp => k p vs (W2.put p (.lst vs) (W2.free hp)) (g2.and (W2.grow_put hp)) (by
    cases e : W1.H p with
    | none => rfl
    | some o => exact absurd hp (g2.md.d p (by rw [e]; exact fun z => by cases z))) (W2.free hp) upd_same rs⟩
theorem ev_tupN {ta : TA} {xs : List α} (h : EvAs ε K ta σ W xs) (hl : xs.length ≤ 100000) : EvR ε K (tTup ta) σ W (Tup.mk xs) := fun W1 g1 Q k =>
  h W1 g1 _ fun vs W2 g2 rs => ⟨Evl.sz_of (by rw [Reps.len rs]; exact hl), fun p hp => k _ (W2.add p (.tup vs)) (g2.and (W2.grow_add hp)) ⟨p, vs, rfl, upd_same, Reps.mono (exExt (W2.grow_add hp).b) rs⟩⟩
theorem ev_pair (ha : EvR ε K ta σ W x) (hb : EvR ε K tb σ W y) : EvR ε K (tTup (tCons ta (tCons tb tNil))) σ W (x, y) := fun W1 g1 Q k =>
  ha W1 g1 _ fun a W2 g2 ra => hb W2 (g1.trans g2) _ fun b W3 g3 rb => ⟨Evl.sz_of (by show 2 ≤ 100000; decide), fun p hp =>
    k _ (W3.add p (.tup [a, b])) ((g2.trans g3).and (W3.grow_add hp)) ⟨p, a, b, rfl, upd_same, rep_g (W3.grow_add hp) (rep_s g3 ra), rep_g (W3.grow_add hp) rb⟩⟩
theorem ev_t3 {tc : TE} (ha : EvR ε K ta σ W x) (hb : EvR ε K tb σ W y) (hc : EvR ε K tc σ W z) : EvR ε K (tTup (tCons ta (tCons tb (tCons tc tNil)))) σ W (T3.mk x y z) := fun W1 g1 Q k =>
  ha W1 g1 _ fun a W2 g2 ra => hb W2 (g1.trans g2) _ fun b W3 g3 rb => hc W3 ((g1.trans g2).trans g3) _ fun c W4 g4 rc => ⟨Evl.sz_of (by show 3 ≤ 100000; decide), fun p hp =>
    k _ (W4.add p (.tup [a, b, c])) (((g2.trans g3).trans g4).and (W4.grow_add hp)) ⟨p, a, b, c, rfl, upd_same, rep_g (W4.grow_add hp) (rep_s g4 (rep_s g3 ra)), rep_g (W4.grow_add hp) (rep_s g4 rb), rep_g (W4.grow_add hp) rc⟩⟩
/-! tests -/
theorem et_test {b : Bool} (h : EvR ε K te σ W b) : EvT ε (tTest te) σ W b := fun W1 g1 Q k => h W1 g1 _ fun v W2 g2 r => ⟨b, r, k W2 g2⟩
theorem et_B {b : Bool} (h : EvR ε K te σ W b) : EvT ε (tB te) σ W b := fun W1 g1 Q k => h W1 g1 _ fun v W2 g2 r => ⟨b, r, k W2 g2⟩
theorem et_and {a b : Bool} (h1 : EvT ε t σ W a) (h2 : a = true → EvT ε u σ W b) : EvT ε (tAnd t u) σ W (a && b) := fun W1 g1 Q k => h1 W1 g1 _ fun W2 g2 => by
  cases a with
  | false => exact k W2 g2
  | true => exact h2 rfl W2 (g1.trans g2) _ fun W3 g3 => k W3 (g2.trans g3)
theorem et_or {a b : Bool} (h1 : EvT ε t σ W a) (h2 : a = false → EvT ε u σ W b) : EvT ε (tOr t u) σ W (a || b) := fun W1 g1 Q k => h1 W1 g1 _ fun W2 g2 => by
  cases a with
  | true => exact k W2 g2
  | false => exact h2 rfl W2 (g1.trans g2) _ fun W3 g3 => k W3 (g2.trans g3)
theorem et_not {a : Bool} (h1 : EvT ε t σ W a) : EvT ε (tNot t) σ W (!a) := fun W1 g1 Q k => h1 W1 g1 _ fun W2 g2 => k W2 g2
theorem ev_andV {a b : Bool} (h1 : EvR ε K ta σ W a) (h2 : a = true → EvR ε K tb σ W b) : EvR ε K (tAndV ta tb) σ W (a && b) := fun W1 g1 Q k => h1 W1 g1 _ fun v W2 g2 r => ⟨a, r, by
  cases a with
  | false => exact k _ W2 g2 rfl
  | true => exact h2 rfl W2 (g1.trans g2) _ fun v W3 g3 r => k v W3 (g2.trans g3) r⟩
theorem ev_orV {a b : Bool} (h1 : EvR ε K ta σ W a) (h2 : a = false → EvR ε K tb σ W b) : EvR ε K (tOrV ta tb) σ W (a || b) := fun W1 g1 Q k => h1 W1 g1 _ fun v W2 g2 r => ⟨a, r, by
  cases a with
  | true => exact k _ W2 g2 rfl
  | false => exact h2 rfl W2 (g1.trans g2) _ fun v W3 g3 r => k v W3 (g2.trans g3) r⟩
theorem ev_notV {a : Bool} (h1 : EvR ε K ta σ W a) : EvR ε K (tNotV ta) σ W (!a) := fun W1 g1 Q k => h1 W1 g1 _ fun v W2 g2 r => ⟨a, r, k _ W2 g2 rfl⟩
theorem ev_if {b : Bool} {x' : α} (h : EvT ε t σ W b) (h1 : b = true → EvR ε K ta σ W x) (h2 : b = false → EvR ε K tb σ W x') : EvR ε K (tIf t ta tb) σ W (if b then x else x') := fun W1 g1 Q k => h W1 g1 _ fun W2 g2 => by
  cases b with
  | true => exact h1 rfl W2 (g1.trans g2) _ fun v W3 g3 r => k v W3 (g2.trans g3) r
  | false => exact h2 rfl W2 (g1.trans g2) _ fun v W3 g3 r => k v W3 (g2.trans g3) r
/-! calls of built-ins -/
def rMin2 : List V → Hp → VK → Prop := fun xs H Q => ∃ i j, xs = [.int i, .int j] ∧ Q (.int (if j < i then j else i)) H
def rMax2 : List V → Hp → VK → Prop := fun xs H Q => ∃ i j, xs = [.int i, .int j] ∧ Q (.int (if j > i then j else i)) H
def rAbs : List V → Hp → VK → Prop := fun xs H Q => ∃ i, xs = [.int i] ∧ Q (.int (if i < 0 then -i else i)) H
def rLen (K : Fg) : List V → Hp → VK → Prop := fun xs H Q => ∃ p ys, xs = [.ref p] ∧ (SqL K H p ys ∨ SqT K H p ys) ∧ Q (.int ys.length) H
def rLenS : List V → Hp → VK → Prop := fun xs H Q => ∃ z, xs = [.str z] ∧ z.length ≤ sizeLine ∧ Q (.int z.length) H
def rListO (K : Fg) : List V → Hp → VK → Prop := fun xs H Q => ∃ p ys, xs = [.ref p] ∧ (SqL K H p ys ∨ SqT K H p ys) ∧ ∀ l, H l = none → Q (.ref l) (upd H l (.lst ys))
def rDictC : List V → Hp → VK → Prop := fun xs H Q => ∃ a kvs, xs = [.ref a] ∧ Rd H a (.dK kvs) ∧ ∀ p, H p = none → Q (.ref p) (upd H p (.dK kvs))
section
variable {X : Cx}
theorem cr_min2 (hc : X.calm = true) : CallR X (.builtin "min") rMin2 := call_min2 hc
theorem cr_max2 (hc : X.calm = true) : CallR X (.builtin "max") rMax2 := call_max2 hc
theorem cr_abs : CallR X (.builtin "abs") rAbs := call_abs
theorem cr_len : CallR X (.builtin "len") (rLen X.K) := call_len_seq
theorem cr_lenS : CallR X (.builtin "len") rLenS := call_len_str
theorem cr_listO : CallR X (.type "list") (rListO X.K) := call_list_of
theorem cr_dictC : CallR X (.type "dict") rDictC := by
  intro pins s σ H xs us Q I r h
  obtain ⟨a, kvs, rfl, rd, k⟩ := h
  cases r with
  | cons r rr =>
    cases rr
    cases r
    exact d_copyOf I rd fun p s' hp I' => ⟨.ref p, _, I', rfl, k p hp⟩
end
theorem rc_min2 {i j : Int} : RC2 K rMin2 i j (if j < i then j else i) := fun v u W1 rv ru Q k => ⟨i, j, by rw [show v = _ from rv, show u = _ from ru], k _ W1 (.refl _ _) rfl⟩
theorem rc_max2 {i j : Int} : RC2 K rMax2 i j (if j > i then j else i) := fun v u W1 rv ru Q k => ⟨i, j, by rw [show v = _ from rv, show u = _ from ru], k _ W1 (.refl _ _) rfl⟩
theorem rc_abs {i : Int} : RC1 K rAbs i (if i < 0 then -i else i) := fun v W1 rv Q k => ⟨i, by rw [show v = _ from rv], k _ W1 (.refl _ _) rfl⟩
theorem rc_len {xs : List α} : RC1 K (rLen K) xs (xs.length : Int) := fun v W1 ⟨a, vs, e, s, r⟩ Q k => ⟨a, vs, by rw [e], .inl (SqL.of (W1.sub.el s)), by
  rw [Reps.len r]; exact k _ W1 (.refl _ _) rfl⟩
theorem rc_lenT {xs : Tup α} : RC1 K (rLen K) xs (xs.items.length : Int) := fun v W1 ⟨a, vs, e, s, r⟩ Q k => ⟨a, vs, by rw [e], .inr (SqT.of (W1.sub.et s)), by
  rw [Reps.len r]; exact k _ W1 (.refl _ _) rfl⟩
theorem rc_lenS {x : Str} (h : x.length ≤ 100000) : RC1 K rLenS x (x.length : Int) := fun v W1 e Q k => ⟨x, by rw [show v = _ from e], Evl.sz_of h, k _ W1 (.refl _ _) rfl⟩
theorem rc_list {xs : List α} : RC1 K (rListO K) xs xs := fun v W1 ⟨a, vs, e, s, r⟩ Q k => ⟨a, vs, by rw [e], .inl (SqL.of (W1.sub.el s)), fun l hl =>
  k _ (W1.add l (.lst vs)) (W1.grow_add hl) ⟨l, vs, rfl, upd_same, Reps.mono (exExt (W1.grow_add hl).b) r⟩⟩
theorem rc_listT {xs : Tup α} : RC1 K (rListO K) xs xs.items := fun v W1 ⟨a, vs, e, s, r⟩ Q k => ⟨a, vs, by rw [e], .inr (SqT.of (W1.sub.et s)), fun l hl =>
  k _ (W1.add l (.lst vs)) (W1.grow_add hl) ⟨l, vs, rfl, upd_same, Reps.mono (exExt (W1.grow_add hl).b) r⟩⟩
theorem rc_sum {xs : List Int} : RC1 K (rSum K) xs xs.sum := fun v W1 ⟨a, vs, e, s, r⟩ Q k => ⟨a, xs, by rw [e], by rw [← reps_int r]; exact SqL.of (W1.sub.el s), k _ W1 (.refl _ _) rfl⟩
/-- sorted: whatever stands in order with the same items -/
theorem rc_sortedI {xs ys : List Int} (hp : ys.Perm xs) (ho : ys.Pairwise (· ≤ ·)) : RC1 K (rSortedI K) xs ys := fun v W1 ⟨a, vs, e, s, r⟩ Q k => ⟨a, xs, by rw [e], by rw [← reps_int r]; exact SqL.of (W1.sub.el s), fun ns' p h1 h2 hp0 => by
  have e2 : ns' = ys := (h1.trans hp.symm).eq_of_pairwise (fun a b _ _ h h' => Int.le_antisymm h h') h2 ho
  subst e2
  exact k _ (W1.add p _) (W1.grow_add hp0) ⟨p, _, rfl, upd_same, int_reps _⟩⟩
theorem rc_all {xs : List Bool} : RC1 K (rAll K) xs (xs.all id) := fun v W1 ⟨a, vs, e, s, r⟩ Q k => ⟨a, xs, by rw [e], by rw [← reps_bl r]; exact SqL.of (W1.sub.el s), k _ W1 (.refl _ _) rfl⟩
theorem rc_any {xs : List Bool} : RC1 K (rAny K) xs (xs.any id) := fun v W1 ⟨a, vs, e, s, r⟩ Q k => ⟨a, xs, by rw [e], by rw [← reps_bl r]; exact SqL.of (W1.sub.el s), k _ W1 (.refl _ _) rfl⟩
/-- isinstance of one built-in class -/
theorem rc_isi {c a : String} {b : Bool} (ht : ∀ (W1 : Wd) v, rep K W1.B v x → TyX K W1.H v (.type a)) (hk : kitB a c = some b) : RC2 K (rIsi K) x (Raw.mk (.ty c)) b := fun v u W1 rv ru Q k =>
  ⟨v, u, .type a, .type c, b, by rw [show u = _ from ru], by rw [show u = _ from ru]; exact .ty c, ht W1 v rv, kit_ty hk, k _ W1 (.refl _ _) rfl⟩
theorem ty_int {i : Int} (W1 : Wd) (v : V) (h : rep K W1.B v i) : TyX K W1.H v (.type "int") := by rw [show v = _ from h]; exact .base (.int i)
theorem ty_str {i : Str} (W1 : Wd) (v : V) (h : rep K W1.B v i) : TyX K W1.H v (.type "str") := by rw [show v = _ from h]; exact .base (.str i)
theorem ty_bl {i : Bool} (W1 : Wd) (v : V) (h : rep K W1.B v i) : TyX K W1.H v (.type "bool") := by rw [show v = _ from h]; exact .base (.bl i)
theorem ty_non (W1 : Wd) (v : V) (h : rep K W1.B v ()) : TyX K W1.H v (.type "NoneType") := by rw [show v = _ from h]; exact .base .non
/-- {} -/
theorem ed_new {κ : Type} [PyKey κ] : EvD ε K tDNewK σ W (⟨[]⟩ : Dict κ α) := fun W1 g1 Q k p hp => k _ (W1.add p (.dK [])) (g1.rf.and (W1.grow_add hp)) ⟨p, [], rfl, upd_same, upd_same, .nil⟩
/-- dict(d) -/
theorem ed_copy {κ : Type} [PyKey κ] {d : Dict κ α} (h : EvR ε K te σ W d) : EvD ε K (tCB rDictC (tCons te tNil)) σ W d := fun W1 g1 Q k => h W1 g1 _ fun v W2 g2 ⟨a, ks, e, rd, r⟩ =>
  ⟨a, ks, by rw [e], W2.sub.rd rd, fun p hp => k _ (W2.add p (.dK ks)) (g2.and (W2.grow_add hp)) ⟨p, ks, rfl, upd_same, upd_same, KReps.mono (exExt (W2.grow_add hp).b) r⟩⟩
/-- list(d.items()) of an unlocked dict -/
theorem ev_listItems {κ : Type} [PyKV κ] {d : Dict κ α} (h : EvD ε K te σ W d) : EvR ε K (LiI.tListItems te) σ W d.kv := fun W1 g1 Q k => h W1 g1 _ fun v W2 g2 ⟨a, ks, e, hB, hH, r⟩ => by
  refine ⟨a, ks, e, hH, fun H' p ts hx hp hts hpt hl hpr => ?_⟩
  -- the new world
  let B' : Hp := fun b => match W2.B b with
    | some o => some o
    | none => if b = p then H' p else if b ∈ ts then H' b else none
  have hB' : ∀ b o, W2.B b = some o → B' b = some o := fun b o q => by show (match W2.B b with | some o => some o | none => _) = some o; rw [q]
  have hnew : ∀ b, W2.H b = none → B' b = (if b = p then H' p else if b ∈ ts then H' b else none) := fun b q => by
    show (match W2.B b with | some o => some o | none => _) = _
    rw [W2.free q]
  have sub : Ext B' H' := fun b o q => by
    cases e2 : W2.B b with
    | some o' =>
      have : B' b = some o' := hB' b o' e2
      rw [this] at q; cases q
      rcases W2.sub b o e2 with h1 | ⟨h0, ob, h1⟩
      · exact .inl (hx b o h1)
      · exact .inr ⟨h0, ob, hx b _ h1⟩
    | none =>
      have : B' b = (if b = p then H' p else if b ∈ ts then H' b else none) := by
        show (match W2.B b with | some o => some o | none => _) = _
        rw [e2]
      rw [this] at q
      by_cases z : b = p
      · rw [if_pos z] at q; rw [z]; exact .inl q
      · rw [if_neg z] at q
        by_cases z2 : b ∈ ts
        · rw [if_pos z2] at q; exact .inl q
        · rw [if_neg z2] at q; cases q
  let W3 : Wd := ⟨B', H', sub⟩
  have gr : Grow W2 W3 := .mk hB' hx fun b hb => by
    show B' b = W2.B b
    cases e2 : W2.B b with
    | some o' => exact hB' b o' e2
    | none =>
      have : B' b = (if b = p then H' p else if b ∈ ts then H' b else none) := by
        show (match W2.B b with | some o => some o | none => _) = _
        rw [e2]
      rw [this, if_neg (fun z => hb.ne (by rw [z]; exact hp)), if_neg (fun z => hb.ne (hts b z))]
  refine k _ W3 (g2.and gr) ⟨p, ts.map V.ref, rfl, by show B' p = _; rw [hnew p hp, if_pos rfl]; exact hl, ?_⟩
  have r3 : KReps K W3.B ks d.kv := KReps.mono (exExt gr.b) r
  clear k
  have hts' : ∀ t ∈ ts, B' t = H' t := fun t ht => by
    rw [hnew t (hts t ht), if_neg (fun z => hpt (by rw [← z]; exact ht)), if_pos ht]
  have main : ∀ (ts : List Addr) (ks : List (Key × V)) (kv : List (κ × α)), (∀ t ∈ ts, B' t = H' t) → Paired (fun (t : Addr) (q : Key × V) => H' t = some (.tup [kV q.1, q.2])) ts ks → KReps K B' ks kv → Reps K B' (ts.map V.ref) kv := by
    intro ts
    induction ts with
    | nil => intro ks kv _ a b; cases a; cases b; exact .nil
    | cons t ts ih =>
      intro ks kv h a b
      cases a with
      | cons a1 a2 =>
        cases b with
        | cons b1 b2 =>
          refine .cons ⟨t, _, _, rfl, (h t List.mem_cons_self).trans a1, ?_, b1.2⟩ (ih _ _ (fun t' ht' => h t' (List.mem_cons_of_mem _ ht')) a2 b2)
          rw [b1.1]
          exact PyKV.krep _ _ _
  exact main ts ks d.kv hts' hpr r3
/-! slices -/
def cutL (xs : List α) (lo hi : Option Int) : List α := (xs.drop (HT.sIx xs.length 0 lo)).take (HT.sIx xs.length xs.length hi - HT.sIx xs.length 0 lo)
theorem eo_none : EvO ε tNoPart σ W none := fun W1 g1 Q k => k W1 g1.rf
theorem eo_some {i : Int} (h : EvR ε K te σ W i) : EvO ε (tPart te) σ W (some i) := fun W1 g1 Q k => h W1 g1 _ fun v W2 g2 r => ⟨i, r, k W2 g2⟩
theorem ev_slL {tl th : TO} {xs : List α} {lo hi : Option Int} (h : EvR ε K te σ W xs) (h1 : EvO ε tl σ W lo) (h2 : EvO ε th σ W hi) : EvR ε K (tSl (rSlL K) te tl th) σ W (cutL xs lo hi) := fun W1 g1 Q k =>
  h W1 g1 _ fun v W2 g2 rx => h1 W2 (g1.trans g2) _ fun W3 g3 => h2 W3 ((g1.trans g2).trans g3) _ fun W4 g4 => by
    obtain ⟨a, vs, e, s, r⟩ := rep_s g4 (rep_s g3 rx)
    refine ⟨a, vs, e, SqL.of (W4.sub.el s), fun p hp => k _ (W4.add p _) (((g2.trans g3).trans g4).and (W4.grow_add hp)) ⟨p, _, rfl, upd_same, Reps.mono (exExt (W4.grow_add hp).b) ?_⟩⟩
    unfold cutV cutL
    rw [Reps.len r]
    exact Reps.take _ (Reps.drop _ r)
theorem ev_revL {xs : List α} (h : EvR ε K te σ W xs) : EvR ε K (tRevL K te) σ W xs.reverse := fun W1 g1 Q k => h W1 g1 _ fun v W2 g2 ⟨a, vs, e, s, r⟩ =>
  ⟨a, vs, e, SqL.of (W2.sub.el s), fun p hp => k _ (W2.add p _) (g2.and (W2.grow_add hp)) ⟨p, _, rfl, upd_same, Reps.mono (exExt (W2.grow_add hp).b) (Reps.rev r)⟩⟩
end

/-! ### what is walked -/
/-- J walks xs in every world that S tells -/
structure Src {α : Type} [Py α] (K : Fg) (J : It) (S : Wd → Prop) (xs : List α) : Prop where
  go : ∀ i W', S W' → i < xs.length → J.go i W'.H
  yld : ∀ i W' v H'', S W' → i < xs.length → J.yld i W'.H v H'' → ∃ x W'', W''.H = H'' ∧ Grow W' W'' ∧ xs[i]? = some x ∧ rep K W''.B v x
  stop : ∀ i W', S W' → xs.length ≤ i → J.stop i W'.H
def EvI {α : Type} [Py α] (ε : Ef) (K : Fg) (wi : TI) (σ : SS) (W : Wd) (xs : List α) : Prop :=
  ∀ W1, Stp ε W W1 → ∀ R : It → Hp → Prop, (∀ J S W2, Stp ε W1 W2 → S W2 → (∀ W W', S W → Stp ε W W' → S W') → Src K J S xs → R J W2.H) → wi σ W1.H R
def EvJ {α : Type} [Py α] (ε : Ef) (K : Fg) (wi : TI) (σ : SS) (W : Wd) (xs : List α) : Prop :=
  ∀ W1, Stp ε W W1 → ∀ R : It → Hp → Prop, (∀ J W2, Stp ε W1 W2 → Src K J (On W2) xs → R J W2.H) → wi σ W1.H R
section
variable {α β γ : Type} [Py α] [Py β] [Py γ] {K : Fg} {σ : SS} {W W' : Wd} {v : V} {te ta tb : TE} {wi : TI} {ε : Ef}
theorem EvJ.i {xs : List α} (h : EvJ ε K wi σ W xs) : EvI ε K wi σ W xs := fun W1 g1 R k => h W1 g1 R fun J W2 g2 s => k J (On W2) W2 g2 (.refl _) (fun _ _ a b => a.trans b.on) s
theorem ei_list {xs : List α} (h : EvR ε K te σ W xs) : EvJ ε K (iList K te) σ W xs := fun W1 g1 R k => h W1 g1 _ fun v W2 g2 ⟨a, vs, e, s, r⟩ =>
  ⟨a, e, ⟨vs, SqL.of (W2.sub.el s)⟩, k (Itl K a) W2 g2 ⟨fun i W' o hi => by
      obtain ⟨x, hx⟩ : ∃ x, xs[i]? = some x := ⟨xs[i], by simp [hi]⟩
      obtain ⟨v, h1, _⟩ := Reps.get' r hx
      exact ⟨vs, v, SqL.of (W'.sub.el (o.b _ _ s)), h1⟩,
    fun i W' v H'' o hi ⟨e1, e2⟩ => by
      obtain ⟨x, h1, h2⟩ := Reps.get r (e2 vs (SqL.of (W'.sub.el (o.b _ _ s))))
      exact ⟨x, W', e1.symm, .refl _ _, h1, rex o.b h2⟩,
    fun i W' o hi => ⟨vs, SqL.of (W'.sub.el (o.b _ _ s)), by rw [Reps.len r]; exact hi⟩⟩⟩
theorem ei_tup {xs : Tup α} (h : EvR ε K te σ W xs) : EvJ ε K (iTup K te) σ W xs.items := fun W1 g1 R k => h W1 g1 _ fun v W2 g2 ⟨a, vs, e, s, r⟩ =>
  ⟨a, e, ⟨vs, SqT.of (W2.sub.et s)⟩, k (Itt K a) W2 g2 ⟨fun i W' o hi => by
      obtain ⟨x, hx⟩ : ∃ x, xs.items[i]? = some x := ⟨xs.items[i], by simp [hi]⟩
      obtain ⟨v, h1, _⟩ := Reps.get' r hx
      exact ⟨vs, v, SqT.of (W'.sub.et (o.b _ _ s)), h1⟩,
    fun i W' v H'' o hi ⟨e1, e2⟩ => by
      obtain ⟨x, h1, h2⟩ := Reps.get r (e2 vs (SqT.of (W'.sub.et (o.b _ _ s))))
      exact ⟨x, W', e1.symm, .refl _ _, h1, rex o.b h2⟩,
    fun i W' o hi => ⟨vs, SqT.of (W'.sub.et (o.b _ _ s)), by rw [Reps.len r]; exact hi⟩⟩⟩
/-- lo, lo + 1, .. -/
def rng (lo : Int) (n : Nat) : List Int := (List.range n).map fun i => lo + (i : Nat)
theorem rng_len (lo : Int) (n : Nat) : (rng lo n).length = n := by unfold rng; simp
theorem rng_get {lo : Int} {n i : Nat} (h : i < n) : (rng lo n)[i]? = some (lo + (i : Nat)) := by unfold rng; simp [h]
theorem rng_mem {lo k : Int} {n : Nat} : k ∈ rng lo n ↔ lo ≤ k ∧ k < lo + n := by
  unfold rng
  simp only [List.mem_map, List.mem_range]
  constructor
  · rintro ⟨i, h, rfl⟩; omega
  · rintro ⟨h1, h2⟩; exact ⟨(k - lo).toNat, by omega, by omega⟩
theorem src_range {lo : Int} {n : Nat} {S : Wd → Prop} : Src K (Itr lo n) S (rng lo n) :=
  ⟨fun i W' _ hi => by rw [rng_len] at hi; exact hi, fun i W' v H'' _ hi ⟨e1, e2⟩ => ⟨_, W', e1.symm, .refl _ _, rng_get (by rw [rng_len] at hi; exact hi), e2⟩,
    fun i W' _ hi => by rw [rng_len] at hi; exact hi⟩
theorem ei_rng1 {n : Int} (h : EvR ε K ta σ W n) (hn : n ≤ 1000000000) (hm : -1000000000 ≤ n) : EvJ ε K (iRng1 (tCons ta tNil)) σ W (rng 0 n.toNat) := fun W1 g1 R k => h W1 g1 _ fun v W2 g2 r =>
  ⟨n, by rw [show v = _ from r], by omega, by omega, k _ W2 g2 src_range⟩
theorem ei_rng2 {m n : Int} (ha : EvR ε K ta σ W m) (hb : EvR ε K tb σ W n) (h1 : m ≤ 1000000000 ∧ -1000000000 ≤ m ∧ n ≤ 1000000000 ∧ -1000000000 ≤ n) : EvJ ε K (iRng2 (tCons ta (tCons tb tNil))) σ W (rng m (n - m).toNat) := fun W1 g1 R k => ha W1 g1 _ fun v W2 g2 r =>
  hb W2 (g1.trans g2) _ fun u W3 g3 ru => ⟨m, n, by rw [show v = _ from r, show u = _ from ru], by omega, k _ W3 (g2.trans g3) src_range⟩
theorem ei_enum {xs : List α} (h : EvR ε K te σ W xs) : EvJ ε K (iEnum K (tCons te tNil)) σ W ((rng 0 xs.length).zip xs) := fun W1 g1 R k => h W1 g1 _ fun v W2 g2 ⟨a, vs, e, s, r⟩ =>
  ⟨a, vs, by rw [e], SqL.of (W2.sub.el s), k (Ite K a) W2 g2 ⟨fun i W' o hi => by
      have hi' : i < xs.length := by simp [rng_len] at hi; exact hi
      obtain ⟨x, hx⟩ : ∃ x, xs[i]? = some x := ⟨xs[i], by simp [hi']⟩
      obtain ⟨v, h1, _⟩ := Reps.get' r hx
      exact ⟨vs, v, SqL.of (W'.sub.el (o.b _ _ s)), h1⟩,
    fun i W' v H'' o hi ⟨T, x, e1, hT, e2, e3⟩ => by
      have hi' : i < xs.length := by simp [rng_len] at hi; exact hi
      obtain ⟨y, h1, h2⟩ := Reps.get r (e3 vs (SqL.of (W'.sub.el (o.b _ _ s))))
      refine ⟨((i : Int), y), W'.add T _, e2.symm, W'.grow_add hT, ?_, T, .int (i : Nat), x, e1, upd_same, rfl, rep_g (W'.grow_add hT) (rex o.b h2)⟩
      rw [List.getElem?_zip_eq_some]
      exact ⟨by rw [rng_get hi']; simp, h1⟩,
    fun i W' o hi => ⟨vs, SqL.of (W'.sub.el (o.b _ _ s)), by rw [Reps.len r]; simp [rng_len] at hi; exact hi⟩⟩⟩
theorem ei_zip {xs : List α} {ys : List β} (ha : EvR ε K ta σ W xs) (hb : EvR ε K tb σ W ys) : EvJ ε K (iZip K (tCons ta (tCons tb tNil))) σ W (xs.zip ys) := fun W1 g1 R k => ha W1 g1 _ fun v W2 g2 r1 => hb W2 (g1.trans g2) _ fun u W3 g3 r2 => by
  obtain ⟨a, vs, e, s, r⟩ := rep_s g3 r1
  obtain ⟨b, us, e', s', r'⟩ := r2
  refine ⟨a, b, vs, us, by rw [e, e'], SqL.of (W3.sub.el s), SqL.of (W3.sub.el s'), k (Itz K a b) W3 (g2.trans g3) ⟨fun i W' o hi => ?_, fun i W' v H'' o hi ⟨T, x, y, e1, hT, e2, e3, e4⟩ => ?_, fun i W' o hi => ?_⟩⟩
  · have hi' : i < xs.length ∧ i < ys.length := by simp at hi; omega
    obtain ⟨x, hx⟩ : ∃ x, xs[i]? = some x := ⟨xs[i], by simp [hi'.1]⟩
    obtain ⟨y, hy⟩ : ∃ x, ys[i]? = some x := ⟨ys[i], by simp [hi'.2]⟩
    obtain ⟨v, h1, _⟩ := Reps.get' r hx
    obtain ⟨u, h2, _⟩ := Reps.get' r' hy
    exact ⟨vs, us, v, u, SqL.of (W'.sub.el (o.b _ _ s)), SqL.of (W'.sub.el (o.b _ _ s')), h1, h2⟩
  · obtain ⟨p, h1, h2⟩ := Reps.get r (e3 vs (SqL.of (W'.sub.el (o.b _ _ s))))
    obtain ⟨q, h3, h4⟩ := Reps.get r' (e4 us (SqL.of (W'.sub.el (o.b _ _ s'))))
    refine ⟨(p, q), W'.add T _, e2.symm, W'.grow_add hT, ?_, T, x, y, e1, upd_same, rep_g (W'.grow_add hT) (rex o.b h2), rep_g (W'.grow_add hT) (rex o.b h4)⟩
    rw [List.getElem?_zip_eq_some]
    exact ⟨h1, h3⟩
  · refine ⟨vs, us, SqL.of (W'.sub.el (o.b _ _ s)), SqL.of (W'.sub.el (o.b _ _ s')), ?_⟩
    rw [Reps.len r, Reps.len r']
    simp at hi
    omega
end
end B
/-! B: comprehensions, locked dicts, statements, calls -/
namespace B
open PySem L2
open Evl (Ex)
/-! ### an iterated target -/
def GT {α : Type} [Py α] (K : Fg) (g : TG) (P : α → SS → SS → Wd → Prop) : Prop :=
  ∀ x v W σ (Q : SS → Hp → Prop), rep K W.B v x → (∀ σ2, P x σ σ2 W → Q σ2 W.H) → g v σ W.H Q
section
variable {α β γ : Type} [Py α] [Py β] [Py γ] {K : Fg} {σ : SS} {W W' : Wd} {v : V} {te ta tb : TE} {tt : TT} {wi : TI} {g : TG} {vs : List Nat} {ε : Ef}
def PN (K : Fg) (j : Nat) (x : α) (σ σ2 : SS) (W : Wd) : Prop := ∃ v, rep K W.B v x ∧ σ2 = σ.set j (some v)
def PP (K : Fg) (i j : Nat) (x : α × β) (σ σ2 : SS) (W : Wd) : Prop := ∃ v u, rep K W.B v x.1 ∧ rep K W.B u x.2 ∧ σ2 = (σ.set i (some v)).set j (some u)
theorem gt_name {j : Nat} : GT (α := α) K (gName j) (PN K j) := fun x v W σ Q r k => k _ ⟨v, r, rfl⟩
abbrev gPair (K : Fg) (i j : Nat) : TG := gTup K 2 (gCons (gName i) (gCons (gName j) gNil))
theorem gt_pair {i j : Nat} : GT (α := α × β) K (gPair K i j) (PP K i j) := fun x v W σ Q ⟨a, p, q, e, s, r1, r2⟩ k =>
  ⟨a, [p, q], e, SqT.of (W.sub.et s), rfl, p, [q], rfl, q, [], rfl, rfl, k _ ⟨p, q, r1, r2, rfl⟩⟩
/-! ### list comprehensions -/
theorem en_lc {xs : List α} {p : α → Bool} {f : α → β} {P : α → SS → SS → Wd → Prop} (hi : EvI ε K wi σ W xs) (hg : GT K g P)
    (hw : ∀ x σ2 W', P x (wipe σ vs) σ2 W' → wipe σ2 vs = wipe σ vs)
    (ht : ∀ x W' σ2, x ∈ xs → Stp ε W W' → P x (wipe σ vs) σ2 W' → EvT ε tt σ2 W' (p x))
    (he : ∀ x W' σ2, x ∈ xs → p x = true → Stp ε W W' → P x (wipe σ vs) σ2 W' → EvR ε K te σ2 W' (f x))
    (hP : ∀ x σ2 W' W'', P x (wipe σ vs) σ2 W' → Stp ε W' W'' → P x (wipe σ vs) σ2 W'')
    (hl : xs.length ≤ 100000) : EvN ε K (tLc wi g tt te vs) σ W ((xs.filter p).map f) := fun W1 g1 Q k =>
  hi W1 g1 _ fun J S W2 g2 s2 sg src D hD => by
    have DS : D ∉ ε.S := Ef.off g2.i hD
    refine ⟨fun i m H => m = xs.length - i ∧ i ≤ xs.length ∧ ∃ Wi acc, Wi.H = H ∧ Stp ε W2 Wi ∧ Wi.B D = none ∧ Wi.H D = some (.lst acc) ∧ Reps K Wi.B acc (((xs.take i).filter p).map f), ⟨xs.length, rfl, Nat.zero_le _, W2.put D (.lst []) (W2.free hD), [], rfl, ⟨md_mut (.refl _ _) (W2.free hD) hD, i_put DS g2.i _⟩, W2.free hD, upd_same, by simpa using Paired.nil⟩, ?_⟩
    rintro i m H ⟨rfl, hle, Wi, acc, rfl, gi, bD, hDi, rs⟩
    have si : S Wi := sg _ _ s2 gi
    have hacc : acc.length ≤ i := by
      rw [Reps.len rs, List.length_map]
      exact Nat.le_trans (List.length_filter_le _ _) (by rw [List.length_take]; omega)
    by_cases hlt : i < xs.length
    · refine .inr ⟨src.go i Wi si hlt, fun H => i + 1 ≤ xs.length ∧ ∃ Wi acc, Wi.H = H ∧ Stp ε W2 Wi ∧ Wi.B D = none ∧ Wi.H D = some (.lst acc) ∧ Reps K Wi.B acc (((xs.take (i + 1)).filter p).map f), fun H' h' => ⟨_, by omega, rfl, h'⟩, fun v H'' hy => ?_⟩
      obtain ⟨x, W3, rfl, g3', hx, r⟩ := src.yld i Wi v H'' si hlt hy
      have g3 : Stp ε Wi W3 := gi.rf.and g3'
      have hm : x ∈ xs := List.mem_of_getElem? hx
      have tk : xs.take (i + 1) = xs.take i ++ [x] := by rw [List.take_add_one, hx]; rfl
      have m3 := g3.md.mut DS hDi bD
      refine hg x v W3 _ _ r fun σ2 hp => ⟨hw x σ2 W3 hp, ?_⟩
      refine ht x W3 σ2 hm (((g1.trans g2).trans gi).trans g3) hp W3 g3.rf _ fun W4 g4 => ?_
      have m4 := g4.md.mut DS m3.1 m3.2
      cases hpx : p x with
      | true =>
        rw [if_pos rfl]
        refine he x W4 σ2 hm hpx ((((g1.trans g2).trans gi).trans g3).trans g4) (hP x σ2 W3 W4 hp g4) W4 g4.rf _ fun u W5 g5 r5 => ?_
        have m5 := g5.md.mut DS m4.1 m4.2
        refine ⟨acc, m5.1, Evl.sz_lt (by omega), hlt, W5.put D _ m5.2, acc ++ [u], rfl, ⟨md_mut (((gi.trans g3).trans g4).trans g5).md m5.2 hD, i_put DS g5.i _⟩, m5.2, upd_same, ?_⟩
        rw [tk, List.filter_append, List.map_append]
        simp only [List.filter_cons, hpx, if_pos, List.filter_nil, List.map_cons, List.map_nil]
        exact Reps.snoc (Reps.mono (exExt ((g3.trans g4).trans g5).md.b) rs) r5
      | false =>
        rw [if_neg Bool.false_ne_true]
        refine ⟨hlt, W4, acc, rfl, (gi.trans g3).trans g4, m4.2, m4.1, ?_⟩
        rw [tk, List.filter_append, List.map_append]
        simp only [List.filter_cons, hpx, List.filter_nil, List.map_nil, List.append_nil, if_neg Bool.false_ne_true]
        exact Reps.mono (exExt (g3.trans g4).md.b) rs
    · have e : i = xs.length := by omega
      subst e
      rw [List.take_length] at rs
      exact .inl ⟨src.stop _ Wi si (Nat.le_refl _), k D acc Wi (g2.trans gi) (by
        cases e : W1.H D with
        | none => rfl
        | some o => exact absurd hD (g2.md.d D (by rw [e]; exact fun z => by cases z))) bD hDi rs⟩
theorem et_yes : EvT ε tYes σ W true := fun W1 g1 Q k => k W1 g1.rf
theorem wipe1 {j : Nat} {v : V} : wipe ((wipe σ [j]).set j (some v)) [j] = wipe σ [j] := by simp [wipe, List.set_set]
theorem set_none_comm {σ : SS} {i j : Nat} {a : Option V} (h : i ≠ j) : (σ.set i a).set j none = (σ.set j none).set i a := List.set_comm _ _ h
theorem wipe2 {i j : Nat} {v u : V} : wipe (((wipe σ [i, j]).set i (some v)).set j (some u)) [i, j] = wipe σ [i, j] := by
  simp only [wipe]
  by_cases h : i = j
  · subst h; simp [List.set_set]
  · rw [List.set_set, set_none_comm (σ := ((σ.set j none).set i none)) h, List.set_set, List.set_comm (l := σ) _ _ (Ne.symm h), List.set_set]
    rw [List.set_comm (l := σ) _ _ h, List.set_set]
theorem filter_yes (xs : List α) : xs.filter (fun _ => true) = xs := List.filter_eq_self.mpr fun _ _ => rfl
/-- [e for x in ..], [e for x in .. if t] -/
theorem en_lcN {j : Nat} {xs : List α} {f : α → β} (hi : EvI ε K wi σ W xs) (he : ∀ x v W', x ∈ xs → Stp ε W W' → rep K W'.B v x → EvR ε K te ((wipe σ [j]).set j (some v)) W' (f x)) (hl : xs.length ≤ 100000) :
    EvN ε K (tLc wi (gName j) tYes te [j]) σ W (xs.map f) := by
  have := en_lc (ε := ε) (K := K) (wi := wi) (g := gName j) (tt := tYes) (te := te) (vs := [j]) (p := fun _ => true) (f := f) hi gt_name (fun x σ2 W' ⟨v, _, e⟩ => by rw [e]; exact wipe1) (fun _ _ _ _ _ _ => et_yes)
    (fun x W' σ2 hm _ g ⟨v, r, e⟩ => by rw [e]; exact he x v W' hm g r) (fun x σ2 W' W'' ⟨v, r, e⟩ g => ⟨v, rep_s g r, e⟩) hl
  rw [filter_yes] at this
  exact this
theorem ev_lcN {j : Nat} {xs : List α} {f : α → β} (hi : EvI ε K wi σ W xs) (he : ∀ x v W', x ∈ xs → Stp ε W W' → rep K W'.B v x → EvR ε K te ((wipe σ [j]).set j (some v)) W' (f x)) (hl : xs.length ≤ 100000) :
    EvR ε K (tLc wi (gName j) tYes te [j]) σ W (xs.map f) := (en_lcN hi he hl).toR
theorem en_lcNt {j : Nat} {xs : List α} {p : α → Bool} {f : α → β} (hi : EvI ε K wi σ W xs) (ht : ∀ x v W', x ∈ xs → Stp ε W W' → rep K W'.B v x → EvT ε tt ((wipe σ [j]).set j (some v)) W' (p x))
    (he : ∀ x v W', x ∈ xs → p x = true → Stp ε W W' → rep K W'.B v x → EvR ε K te ((wipe σ [j]).set j (some v)) W' (f x)) (hl : xs.length ≤ 100000) :
    EvN ε K (tLc wi (gName j) tt te [j]) σ W ((xs.filter p).map f) :=
  en_lc hi gt_name (fun x σ2 W' ⟨v, _, e⟩ => by rw [e]; exact wipe1) (fun x W' σ2 hm g ⟨v, r, e⟩ => by rw [e]; exact ht x v W' hm g r)
    (fun x W' σ2 hm hp g ⟨v, r, e⟩ => by rw [e]; exact he x v W' hm hp g r) (fun x σ2 W' W'' ⟨v, r, e⟩ g => ⟨v, rep_s g r, e⟩) hl
theorem ev_lcNt {j : Nat} {xs : List α} {p : α → Bool} {f : α → β} (hi : EvI ε K wi σ W xs) (ht : ∀ x v W', x ∈ xs → Stp ε W W' → rep K W'.B v x → EvT ε tt ((wipe σ [j]).set j (some v)) W' (p x))
    (he : ∀ x v W', x ∈ xs → p x = true → Stp ε W W' → rep K W'.B v x → EvR ε K te ((wipe σ [j]).set j (some v)) W' (f x)) (hl : xs.length ≤ 100000) :
    EvR ε K (tLc wi (gName j) tt te [j]) σ W ((xs.filter p).map f) := (en_lcNt hi ht he hl).toR
theorem en_lcP {i j : Nat} {xs : List (α × β)} {f : α × β → γ} (hi : EvI ε K wi σ W xs) (he : ∀ x v u W', x ∈ xs → Stp ε W W' → rep K W'.B v x.1 → rep K W'.B u x.2 → EvR ε K te (((wipe σ [i, j]).set i (some v)).set j (some u)) W' (f x)) (hl : xs.length ≤ 100000) :
    EvN ε K (tLc wi (gPair K i j) tYes te [i, j]) σ W (xs.map f) := by
  have := en_lc (ε := ε) (K := K) (wi := wi) (g := gPair K i j) (tt := tYes) (te := te) (vs := [i, j]) (p := fun _ => true) (f := f) hi gt_pair (fun x σ2 W' ⟨v, u, _, _, e⟩ => by rw [e]; exact wipe2) (fun _ _ _ _ _ _ => et_yes)
    (fun x W' σ2 hm _ g ⟨v, u, r, r', e⟩ => by rw [e]; exact he x v u W' hm g r r') (fun x σ2 W' W'' ⟨v, u, r, r', e⟩ g => ⟨v, u, rep_s g r, rep_s g r', e⟩) hl
  rw [filter_yes] at this
  exact this
theorem ev_lcP {i j : Nat} {xs : List (α × β)} {f : α × β → γ} (hi : EvI ε K wi σ W xs) (he : ∀ x v u W', x ∈ xs → Stp ε W W' → rep K W'.B v x.1 → rep K W'.B u x.2 → EvR ε K te (((wipe σ [i, j]).set i (some v)).set j (some u)) W' (f x)) (hl : xs.length ≤ 100000) :
    EvR ε K (tLc wi (gPair K i j) tYes te [i, j]) σ W (xs.map f) := (en_lcP hi he hl).toR
theorem en_lcPt {i j : Nat} {xs : List (α × β)} {p : α × β → Bool} {f : α × β → γ} (hi : EvI ε K wi σ W xs) (ht : ∀ x v u W', x ∈ xs → Stp ε W W' → rep K W'.B v x.1 → rep K W'.B u x.2 → EvT ε tt (((wipe σ [i, j]).set i (some v)).set j (some u)) W' (p x))
    (he : ∀ x v u W', x ∈ xs → p x = true → Stp ε W W' → rep K W'.B v x.1 → rep K W'.B u x.2 → EvR ε K te (((wipe σ [i, j]).set i (some v)).set j (some u)) W' (f x)) (hl : xs.length ≤ 100000) :
    EvN ε K (tLc wi (gPair K i j) tt te [i, j]) σ W ((xs.filter p).map f) :=
  en_lc hi gt_pair (fun x σ2 W' ⟨v, u, _, _, e⟩ => by rw [e]; exact wipe2) (fun x W' σ2 hm g ⟨v, u, r, r', e⟩ => by rw [e]; exact ht x v u W' hm g r r')
    (fun x W' σ2 hm hp g ⟨v, u, r, r', e⟩ => by rw [e]; exact he x v u W' hm hp g r r') (fun x σ2 W' W'' ⟨v, u, r, r', e⟩ g => ⟨v, u, rep_s g r, rep_s g r', e⟩) hl
theorem ev_lcPt {i j : Nat} {xs : List (α × β)} {p : α × β → Bool} {f : α × β → γ} (hi : EvI ε K wi σ W xs) (ht : ∀ x v u W', x ∈ xs → Stp ε W W' → rep K W'.B v x.1 → rep K W'.B u x.2 → EvT ε tt (((wipe σ [i, j]).set i (some v)).set j (some u)) W' (p x))
    (he : ∀ x v u W', x ∈ xs → p x = true → Stp ε W W' → rep K W'.B v x.1 → rep K W'.B u x.2 → EvR ε K te (((wipe σ [i, j]).set i (some v)).set j (some u)) W' (f x)) (hl : xs.length ≤ 100000) :
    EvR ε K (tLc wi (gPair K i j) tt te [i, j]) σ W ((xs.filter p).map f) := (en_lcPt hi ht he hl).toR
end

/-! ### a dict, locked -/
structure Lk (W WL : Wd) (d : Addr) (ks : List (Key × V)) : Prop where
  b : Ex W.B WL.B
  lk : ∃ od, WL.H d = some (.frz od (.dK ks))
  h : ∀ a o, a ≠ d → W.H a = some o → WL.H a = some o
section
variable {α β : Type} [Py α] [Py β] {K : Fg} {σ : SS} {W W' : Wd} {v : V} {te : TE} {t : TE} {ε : Ef}
theorem rep_lk {WL : Wd} {d : Addr} {ks : List (Key × V)} {x : α} (l : Lk W WL d ks) (h : rep K W.B v x) : rep K WL.B v x := rex l.b h
theorem ev_lock {d : Addr} {ks : List (Key × V)} {x : α} (hd : W.H d = some (.dK ks)) (h : ∀ WL, Lk W WL d ks → EvR pur K t σ WL x) : EvR pur K (tLockE t) σ W x := fun W1 g1' Q k => by
  have g1 := g1'.pure
  have hd1 := g1.h _ _ hd
  refine ⟨d, _, hd1, trivial, fun od => ?_⟩
  have sub : Ext W1.B (upd W1.H d (.frz od (.dK ks))) := fun a o e => by
    by_cases q : a = d
    · subst q
      rcases W1.sub a o e with h1 | ⟨⟨k', rfl⟩, ob, h1⟩
      · rw [hd1] at h1; cases h1
        exact .inr ⟨⟨ks, rfl⟩, od, upd_same⟩
      · rw [hd1] at h1; cases h1
    · rw [upd_ne q]; exact W1.sub a o e
  let WL : Wd := ⟨W1.B, upd W1.H d (.frz od (.dK ks)), sub⟩
  have lk : Lk W WL d ks := ⟨g1.b, ⟨od, upd_same⟩, fun a o q e => by
    show upd W1.H d _ a = some o
    rw [upd_ne q]; exact g1.h a o e⟩
  refine h WL lk WL (.start trivial) _ fun v W2 g2' r => ?_
  have g2 := g2'.pure
  have h2 : W2.H d = some (.frz od (.dK ks)) := g2.h _ _ upd_same
  refine ⟨h2, ?_⟩
  have hB : W2.B d = W1.B d := g2.m d ⟨.frz od (.dK ks), upd_same, fun _ z => by cases z⟩
  have sub3 : Ext W2.B (upd W2.H d (.dK ks)) := fun a o e => by
    by_cases q : a = d
    · subst q
      rw [hB] at e
      rcases W1.sub a o e with h1 | ⟨⟨k', rfl⟩, ob, h1⟩
      · rw [hd1] at h1; cases h1; exact .inl upd_same
      · rw [hd1] at h1; cases h1
    · rw [upd_ne q]; exact W2.sub a o e
  refine k v ⟨W2.B, upd W2.H d (.dK ks), sub3⟩ (.of (.mk g2.b (fun a o e => ?_) (fun a ha => ?_))) r
  · show upd W2.H d (.dK ks) a = some o
    by_cases q : a = d
    · subst q; rw [hd1] at e; cases e; exact upd_same
    · rw [upd_ne q]
      exact g2.h a o (by show upd W1.H d _ a = some o; rw [upd_ne q]; exact e)
  · refine g2.m a ?_
    show Nt (upd W1.H d _) a
    by_cases q : a = d
    · subst q; exact ⟨_, upd_same, fun _ z => by cases z⟩
    · obtain ⟨u, e, hu⟩ := ha
      exact ⟨u, (upd_ne q).trans e, hu⟩
section
variable {κ : Type} [PyKV κ] {d : Addr} {ks : List (Key × V)} {kv : List (κ × α)}
theorem ei_items {WL : Wd} (hv : EvR pur K te σ WL (Raw.mk (.ref d))) (lk : ∃ od, WL.H d = some (.frz od (.dK ks))) (r : KReps K WL.B ks kv) : EvI pur K (iItems te) σ WL kv := fun W1 g1 R k => hv W1 g1 _ fun v W2 g2 e => by
  obtain ⟨od, hod⟩ := lk
  have h2 := (g1.trans g2).pure.h _ _ hod
  refine ⟨d, od, ks, e, h2, k (Iti d od ks) (fun W' => W'.H d = some (.frz od (.dK ks)) ∧ Ex WL.B W'.B) W2 g2 ⟨h2, (g1.trans g2).md.b⟩ (fun W W' ⟨a, b⟩ g => ⟨g.pure.h _ _ a, b.trans g.md.b⟩) ⟨fun i W' s hi => ⟨s.1, by rw [KReps.len r]; exact hi⟩, fun i W' v H'' s hi ⟨T, k', v', h1, e1, hT, e2⟩ => ?_, fun i W' s hi => ⟨s.1, by rw [KReps.len r]; exact hi⟩⟩⟩
  obtain ⟨q, hq, hk, hr⟩ := KReps.get r h1
  refine ⟨q, W'.add T _, e2.symm, W'.grow_add hT, hq, T, _, _, e1, upd_same, ?_, rep_g (W'.grow_add hT) (rex s.2 hr)⟩
  rw [hk]
  exact PyKV.krep _ _ _
theorem ei_keys {WL : Wd} (hv : EvR pur K te σ WL (Raw.mk (.ref d))) (lk : ∃ od, WL.H d = some (.frz od (.dK ks))) (r : KReps K WL.B ks kv) : EvI pur K (iKeys te) σ WL (kv.map (·.1)) := fun W1 g1 R k => hv W1 g1 _ fun v W2 g2 e => by
  obtain ⟨od, hod⟩ := lk
  have h2 := (g1.trans g2).pure.h _ _ hod
  refine ⟨d, od, e, .inl ⟨ks, h2, k (Itk d od ks) (fun W' => W'.H d = some (.frz od (.dK ks)) ∧ Ex WL.B W'.B) W2 g2 ⟨h2, (g1.trans g2).md.b⟩ (fun W W' ⟨a, b⟩ g => ⟨g.pure.h _ _ a, b.trans g.md.b⟩) ⟨fun i W' s hi => ⟨s.1, by rw [KReps.len r]; simpa using hi⟩, fun i W' v H'' s hi ⟨e2, k', v', h1, e1⟩ => ?_, fun i W' s hi => ⟨s.1, by rw [KReps.len r]; simpa using hi⟩⟩⟩⟩
  obtain ⟨q, hq, hk, hr⟩ := KReps.get r h1
  exact ⟨q.1, W', e2.symm, .refl _ _, by simp [hq], by rw [e1, hk]; exact PyKV.krep _ _ _⟩
theorem ei_vals {WL : Wd} (hv : EvR pur K te σ WL (Raw.mk (.ref d))) (lk : ∃ od, WL.H d = some (.frz od (.dK ks))) (r : KReps K WL.B ks kv) : EvI pur K (iVals te) σ WL (kv.map (·.2)) := fun W1 g1 R k => hv W1 g1 _ fun v W2 g2 e => by
  obtain ⟨od, hod⟩ := lk
  have h2 := (g1.trans g2).pure.h _ _ hod
  refine ⟨d, od, ks, e, h2, k (Itd d od ks) (fun W' => W'.H d = some (.frz od (.dK ks)) ∧ Ex WL.B W'.B) W2 g2 ⟨h2, (g1.trans g2).md.b⟩ (fun W W' ⟨a, b⟩ g => ⟨g.pure.h _ _ a, b.trans g.md.b⟩) ⟨fun i W' s hi => ⟨s.1, by rw [KReps.len r]; simpa using hi⟩, fun i W' v H'' s hi ⟨e2, k', h1⟩ => ?_, fun i W' s hi => ⟨s.1, by rw [KReps.len r]; simpa using hi⟩⟩⟩
  obtain ⟨q, hq, hk, hr⟩ := KReps.get r h1
  exact ⟨q.2, W', e2.symm, .refl _ _, by simp [hq], rex s.2 hr⟩
end
end

/-! ### statements -/
section
variable {α β γ : Type} [Py α] [Py β] [Py γ] {K : Fg} {σ : SS} {W : Wd} {D : Ends} {te ta tb : TE} {t : TT} {tu tw tz : TS} {x : α} {y : β} {ε : Ef}
theorem s_asgP {P : V → Wd → Prop} {i : Nat} (h : EvP ε te σ W P) (s : ε.I W) (k : ∀ v W', Stp ε W W' → P v W' → D.nx (σ.set i (some v)) W'.H) : tAsg te (gName i) D σ W.H := h W (.start s) _ k
theorem q_asgP {P : V → Wd → Prop} {i : Nat} (h : EvP ε te σ W P) (s : ε.I W) (k : ∀ v W', Stp ε W W' → P v W' → tz D (σ.set i (some v)) W'.H) : tSeq (tAsg te (gName i)) tz D σ W.H := h W (.start s) _ k
theorem q_asg {i : Nat} (h : EvR ε K te σ W x) (s : ε.I W) (k : ∀ v W', Stp ε W W' → rep K W'.B v x → tz D (σ.set i (some v)) W'.H) : tSeq (tAsg te (gName i)) tz D σ W.H := h W (.start s) _ k
theorem s_asg {i : Nat} (h : EvR ε K te σ W x) (s : ε.I W) (k : ∀ v W', Stp ε W W' → rep K W'.B v x → D.nx (σ.set i (some v)) W'.H) : tAsg te (gName i) D σ W.H := h W (.start s) _ k
theorem q_asgN {xs : List α} {i : Nat} (h : EvN ε K te σ W xs) (s : ε.I W) (k : ∀ p vs W', Stp ε W W' → W.H p = none → W'.B p = none → W'.H p = some (.lst vs) → Reps K W'.B vs xs → tz D (σ.set i (some (.ref p))) W'.H) : tSeq (tAsg te (gName i)) tz D σ W.H := h W (.start s) _ k
theorem s_asgN {xs : List α} {i : Nat} (h : EvN ε K te σ W xs) (s : ε.I W) (k : ∀ p vs W', Stp ε W W' → W.H p = none → W'.B p = none → W'.H p = some (.lst vs) → Reps K W'.B vs xs → D.nx (σ.set i (some (.ref p))) W'.H) : tAsg te (gName i) D σ W.H := h W (.start s) _ k
theorem s_retN {xs : List α} (h : EvN ε K te σ W xs) (s : ε.I W) (k : ∀ p vs W', Stp ε W W' → W.H p = none → W'.B p = none → W'.H p = some (.lst vs) → Reps K W'.B vs xs → D.rt (.ref p) W'.H) : tRet te D σ W.H := h W (.start s) _ k
theorem s_ret (h : EvR ε K te σ W x) (s : ε.I W) (k : ∀ v W', Stp ε W W' → rep K W'.B v x → D.rt v W'.H) : tRet te D σ W.H := h W (.start s) _ k
theorem s_retP {P : V → Wd → Prop} (h : EvP ε te σ W P) (s : ε.I W) (k : ∀ v W', Stp ε W W' → P v W' → D.rt v W'.H) : tRet te D σ W.H := h W (.start s) _ k
theorem s_if {b : Bool} (h : EvT ε t σ W b) (s : ε.I W) (h1 : b = true → ∀ W', Stp ε W W' → tu D σ W'.H) (h2 : b = false → ∀ W', Stp ε W W' → tw D σ W'.H) : tIfS t tu tw D σ W.H := h W (.start s) _ fun W' g => by
  cases b with
  | true => rw [if_pos rfl]; exact h1 rfl W' g
  | false => rw [if_neg Bool.false_ne_true]; exact h2 rfl W' g
theorem q_if {b : Bool} (h : EvT ε t σ W b) (s : ε.I W) (h1 : b = true → ∀ W', Stp ε W W' → tu { D with nx := tz D } σ W'.H) (h2 : b = false → ∀ W', Stp ε W W' → tw { D with nx := tz D } σ W'.H) : tSeq (tIfS t tu tw) tz D σ W.H := s_if (D := { D with nx := tz D }) h s h1 h2
/-- an if without else -/
theorem q_when {b : Bool} (h : EvT ε t σ W b) (s : ε.I W) (h1 : b = true → ∀ W', Stp ε W W' → tu { D with nx := tz D } σ W'.H) (h2 : b = false → ∀ W', Stp ε W W' → tz D σ W'.H) : tSeq (tIfS t tu tNext) tz D σ W.H := s_if (D := { D with nx := tz D }) h s h1 h2
theorem s_when {b : Bool} (h : EvT ε t σ W b) (s : ε.I W) (h1 : b = true → ∀ W', Stp ε W W' → tu D σ W'.H) (h2 : b = false → ∀ W', Stp ε W W' → D.nx σ W'.H) : tIfS t tu tNext D σ W.H := s_if h s h1 h2
theorem q_drop {P : V → Wd → Prop} (h : EvP ε te σ W P) (s : ε.I W) (k : ∀ v W', Stp ε W W' → P v W' → tz D σ W'.H) : tSeq (tDrop te) tz D σ W.H := h W (.start s) _ k
theorem q_augI {i : Nat} {f : Int → Int → Int} {a b : Int} (hx : σ[i]? = some (some (.int a))) (h : EvR ε K te σ W b) (s : ε.I W) (k : ∀ W', Stp ε W W' → tz D (σ.set i (some (.int (f a b)))) W'.H) : tSeq (tAug i te (ipI f)) tz D σ W.H :=
  ⟨_, hx, h W (.start s) _ fun u W' g ru => ⟨a, b, rfl, ru, k W' g⟩⟩
theorem s_augI {i : Nat} {f : Int → Int → Int} {a b : Int} (hx : σ[i]? = some (some (.int a))) (h : EvR ε K te σ W b) (s : ε.I W) (k : ∀ W', Stp ε W W' → D.nx (σ.set i (some (.int (f a b)))) W'.H) : tAug i te (ipI f) D σ W.H :=
  ⟨_, hx, h W (.start s) _ fun u W' g ru => ⟨a, b, rfl, ru, k W' g⟩⟩
/-- a, b = x, y -/
theorem q_par {i j : Nat} {P R : V → Wd → Prop} (ha : EvP ε ta σ W P) (hb : EvP ε tb σ W R) (s : ε.I W) (mono : ∀ v W W', Stp ε W W' → P v W → P v W')
    (k : ∀ v u W', Stp ε W W' → P v W' → R u W' → tz D ((σ.set i (some v)).set j (some u)) W'.H) : tSeq (tPar i j (tCons ta (tCons tb tNil))) tz D σ W.H :=
  ha W (.start s) _ fun v W1 g1 p => hb W1 g1 _ fun u W2 g2 r => ⟨v, u, rfl, k v u W2 (g1.trans g2) (mono v W1 W2 g2 p) r⟩
/-- the turns of a for over what J walks: Pv by the turn, the slots, the world -/
theorem for_src {g : TG} {xs : List α} {J : It} {W2 : Wd} (src : Src K J (On W2) xs) (Pv : Nat → SS → Wd → Prop) (h0 : Pv 0 σ W2) (hon : ∀ i σ' W', Pv i σ' W' → On W2 W')
    (hs : ∀ i x v σ' W' W'', i < xs.length → xs[i]? = some x → Pv i σ' W' → Grow W' W'' → rep K W''.B v x → g v σ' W''.H fun σ2 H2 => tu { D with nx := fun σ H => ∃ W, W.H = H ∧ Pv (i + 1) σ W, ct := fun σ H => ∃ W, W.H = H ∧ Pv (i + 1) σ W, bk := D.nx } σ2 H2)
    (hd : ∀ σ' W', Pv xs.length σ' W' → D.nx σ' W'.H) :
    ∃ W : Nat → Nat → SS → Hp → Prop, (∃ m, W 0 m σ W2.H) ∧ ∀ i m σ H, W i m σ H →
      (J.stop i H ∧ D.nx σ H) ∨ (J.go i H ∧ ∃ N : SS → Hp → Prop, (∀ σ' H', N σ' H' → ∃ m', m' < m ∧ W (i + 1) m' σ' H') ∧ ∀ x H', J.yld i H x H' → g x σ H' fun σ2 H2 => tu { D with nx := N, ct := N, bk := D.nx } σ2 H2) := by
  refine ⟨fun i m σ H => m = xs.length - i ∧ i ≤ xs.length ∧ ∃ W, W.H = H ∧ Pv i σ W, ⟨xs.length, rfl, Nat.zero_le _, W2, rfl, h0⟩, ?_⟩
  rintro i m σ' H ⟨rfl, hle, W', rfl, p⟩
  by_cases hlt : i < xs.length
  · refine .inr ⟨src.go i W' (hon i σ' W' p) hlt, fun σ H => ∃ W, W.H = H ∧ Pv (i + 1) σ W, fun σ'' H'' q => ⟨_, by omega, rfl, hlt, q⟩, fun v H'' hy => ?_⟩
    obtain ⟨x, W'', rfl, gg, hx, r⟩ := src.yld i W' v H'' (hon i σ' W' p) hlt hy
    exact hs i x v σ' W' W'' hlt hx p gg r
  · have e : i = xs.length := by omega
    subst e
    exact .inl ⟨src.stop _ W' (hon _ _ _ p) (Nat.le_refl _), hd σ' W' p⟩
/-- for target in .. -/
theorem s_for {wi : TI} {g : TG} {xs : List α} (hi : EvJ ε K wi σ W xs) (s : ε.I W)
    (k : ∀ W2, Stp ε W W2 → ∃ Pv : Nat → SS → Wd → Prop, Pv 0 σ W2 ∧ (∀ i σ' W', Pv i σ' W' → On W2 W') ∧
      (∀ i x v σ' W' W'', i < xs.length → xs[i]? = some x → Pv i σ' W' → Grow W' W'' → rep K W''.B v x → g v σ' W''.H fun σ2 H2 => tu { D with nx := fun σ H => ∃ W, W.H = H ∧ Pv (i + 1) σ W, ct := fun σ H => ∃ W, W.H = H ∧ Pv (i + 1) σ W, bk := D.nx } σ2 H2) ∧
      (∀ σ' W', Pv xs.length σ' W' → D.nx σ' W'.H)) : tFor wi g tu D σ W.H := hi W (.start s) _ fun J W2 g2 src => by
  obtain ⟨Pv, h0, hon, hs, hd⟩ := k W2 g2
  exact for_src src Pv h0 hon hs hd
theorem q_for {wi : TI} {g : TG} {xs : List α} (hi : EvJ ε K wi σ W xs) (s : ε.I W)
    (k : ∀ W2, Stp ε W W2 → ∃ Pv : Nat → SS → Wd → Prop, Pv 0 σ W2 ∧ (∀ i σ' W', Pv i σ' W' → On W2 W') ∧
      (∀ i x v σ' W' W'', i < xs.length → xs[i]? = some x → Pv i σ' W' → Grow W' W'' → rep K W''.B v x → g v σ' W''.H fun σ2 H2 => tu { D with nx := fun σ H => ∃ W, W.H = H ∧ Pv (i + 1) σ W, ct := fun σ H => ∃ W, W.H = H ∧ Pv (i + 1) σ W, bk := tz D } σ2 H2) ∧
      (∀ σ' W', Pv xs.length σ' W' → tz D σ' W'.H)) : tSeq (tFor wi g tu) tz D σ W.H := s_for (D := { D with nx := tz D }) hi s k
/-- for k in range(a drawn number) -/
theorem for_rng {j : Nat} {n : Int} {W2 : Wd} (Pv : Nat → SS → Wd → Prop) (h0 : Pv 0 σ W2) (hon : ∀ i σ' W', Pv i σ' W' → On W2 W')
    (hs : ∀ (i : Nat) σ' W', (i : Int) < n → Pv i σ' W' → tu { D with nx := fun σ H => ∃ W, W.H = H ∧ Pv (i + 1) σ W, ct := fun σ H => ∃ W, W.H = H ∧ Pv (i + 1) σ W, bk := D.nx } (σ'.set j (some (.int (i : Int)))) W'.H)
    (hd : ∀ σ' W', Pv n.toNat σ' W' → D.nx σ' W'.H) :
    ∃ W : Nat → Nat → SS → Hp → Prop, (∃ m, W 0 m σ W2.H) ∧ ∀ i m σ H, W i m σ H →
      ((Itr 0 n.toNat).stop i H ∧ D.nx σ H) ∨ ((Itr 0 n.toNat).go i H ∧ ∃ N : SS → Hp → Prop, (∀ σ' H', N σ' H' → ∃ m', m' < m ∧ W (i + 1) m' σ' H') ∧ ∀ x H', (Itr 0 n.toNat).yld i H x H' → gName j x σ H' fun σ2 H2 => tu { D with nx := N, ct := N, bk := D.nx } σ2 H2) :=
  L2.for_range (fun i σ H => ∃ W, W.H = H ∧ Pv i σ W) ⟨W2, rfl, h0⟩ (fun i σ H hi ⟨W', e, p⟩ => by
    subst e
    have := hs i σ W' (by omega) p
    show tu _ (σ.set j (some (.int (0 + (i : Nat))))) W'.H
    rw [Int.zero_add]; exact this) (fun σ H ⟨W', e, p⟩ => by subst e; exact hd σ W' p)
/-- while -/
theorem s_while (Wm : Nat → SS → Wd → Prop) (m0 : Nat) (h0 : Wm m0 σ W)
    (hs : ∀ m σ' W', Wm m σ' W' → ε.I W' ∧ ∃ b, EvT ε t σ' W' b ∧ (b = true → ∀ W'', Stp ε W' W'' → tu { D with nx := fun σ H => ∃ m' W, m' < m ∧ W.H = H ∧ Wm m' σ W, ct := fun σ H => ∃ m' W, m' < m ∧ W.H = H ∧ Wm m' σ W, bk := D.nx } σ' W''.H) ∧ (b = false → ∀ W'', Stp ε W' W'' → D.nx σ' W''.H)) : tWhile t tu D σ W.H := by
  refine ⟨fun m σ H => ∃ W, W.H = H ∧ Wm m σ W, ⟨m0, W, rfl, h0⟩, ?_⟩
  rintro m σ' H ⟨W', rfl, w⟩
  obtain ⟨hI, b, ht, h1, h2⟩ := hs m σ' W' w
  refine ht W' (.start hI) _ fun W'' g => ?_
  cases b with
  | true =>
    rw [if_pos rfl]
    exact ⟨fun σ H => ∃ m' W, m' < m ∧ W.H = H ∧ Wm m' σ W, fun σ2 H2 ⟨m', W, hm, e, q⟩ => ⟨m', hm, W, e, q⟩, h1 rfl W'' g⟩
  | false =>
    rw [if_neg Bool.false_ne_true]
    exact h2 rfl W'' g

/-! ### calls of defs -/
theorem ev_callP1 {P R : V → Wd → Prop} {sp : Sp} {E : XK} (ha : EvP ε ta σ W P) (hs : ∀ v W1, Stp ε W W1 → P v W1 → ∀ Q : VK, (∀ u W2, Stp ε W1 W2 → R u W2 → Q u W2.H) → sp [v] W1.H Q E) : EvP ε (tCall sp [] E (tCons ta tNil)) σ W R := fun W1 g1 Q k =>
  ha W1 g1 _ fun v W2 g2 p => hs v W2 (g1.trans g2) p Q fun u W3 g3 r => k u W3 (g2.trans g3) r
theorem ev_callP2 {P P2 R : V → Wd → Prop} {sp : Sp} {E : XK} (ha : EvP ε ta σ W P) (hb : EvP ε tb σ W P2) (mono : ∀ v W W', Stp ε W W' → P v W → P v W')
    (hs : ∀ v v2 W1, Stp ε W W1 → P v W1 → P2 v2 W1 → ∀ Q : VK, (∀ u W2, Stp ε W1 W2 → R u W2 → Q u W2.H) → sp [v, v2] W1.H Q E) : EvP ε (tCall sp [] E (tCons ta (tCons tb tNil))) σ W R := fun W1 g1 Q k =>
  ha W1 g1 _ fun v W2 g2 p => hb W2 (g1.trans g2) _ fun v2 W3 g3 p2 => hs v v2 W3 ((g1.trans g2).trans g3) (mono v W2 W3 g3 p) p2 Q fun u W4 g4 r => k u W4 ((g2.trans g3).trans g4) r
end
end B
/-! B: short names of readings, more derivations -/
namespace B
open PySem L2
open Evl (Ex)
abbrev oAdd : R2 := rI0 fun i j => .int (i + j)
abbrev oSub : R2 := rI0 fun i j => .int (i - j)
abbrev oMul : R2 := rI CMul fun i j => .int (i * j)
abbrev oDiv : R2 := rI CDiv fun i j => .int (i / j)
abbrev oMod : R2 := rI (fun _ j => 0 < j) fun i j => .int (i % j)
abbrev oPow : R2 := rI CPow fun i j => .int (i ^ j.toNat)
abbrev oLt : R2 := rI0 fun i j => .bl (decide (i < j))
abbrev oLe : R2 := rI0 fun i j => .bl (decide (i ≤ j))
abbrev oGt : R2 := rI0 fun i j => .bl (decide (j < i))
abbrev oGe : R2 := rI0 fun i j => .bl (decide (j ≤ i))
abbrev oNeg : V → Hp → VK → Prop := rU fun i => .int (-i)
abbrev oIsN : R2 := fun x y H Q => y = .non ∧ Q (.bl (decide (x = .non))) H
abbrev oNotN : R2 := fun x y H Q => y = .non ∧ Q (.bl (!decide (x = .non))) H
abbrev oCatS : R2 := fun x y H Q => ∃ i j, x = .str i ∧ y = .str j ∧ i.length + j.length ≤ sizeLine ∧ Q (.str (i ++ j)) H
abbrev oLtS : R2 := fun x y H Q => ∃ i j, x = .str i ∧ y = .str j ∧ Q (.bl (decide (i.cps.toList < j.cps.toList))) H
abbrev oInS : R2 := fun x y H Q => ∃ i j, x = .str i ∧ y = .str j ∧ Q (.bl (!(Builtin.Str.occurrences j i 0 j.length 1).isEmpty)) H
abbrev tTru (K : Fg) (ta : TE) : TT := fun σ H Q => ta σ H fun x H' => ∃ k, TruV K x H' k ∧ Q k H'
abbrev rInt1 : List V → Hp → VK → Prop := fun xs H Q => (∃ i, xs = [.int i] ∧ Q (.int i) H) ∨ ∃ k, xs = [.bl k] ∧ Q (.int (if k then 1 else 0)) H
abbrev rTupleO (K : Fg) : List V → Hp → VK → Prop := fun xs H Q => ∃ p ys, xs = [.ref p] ∧ ((SqL K H p ys ∧ ∀ l, H l = none → Q (.ref l) (upd H l (.tup ys))) ∨ (SqT K H p ys ∧ Q (.ref p) H))
abbrev rLenD : List V → Hp → VK → Prop := fun xs H Q => ∃ a kvs, xs = [V.ref a] ∧ H a = some (.dK kvs) ∧ Q (.int kvs.length) H
theorem cr_tupleO {X : Cx} : CallR X (.type "tuple") (rTupleO X.K) := call_tuple_of
theorem cr_lenD {X : Cx} : CallR X (.builtin "len") rLenD := call_lenD

/-! ### name = {k: v for ..} -/
section
variable {X : Cx}
theorem ps_setDc {i : Nat} {y : Str} {py : Pos} {kx vx tg iter : Expr} {ifs : List Expr} {scope : Scope} {own : List (Str × Nat)} {pos spos : Pos} {wi : TI} {g : TG} {tt : TT} {tk tv : TE} (hc : X.calm = true) (hN : X.N.Nodup) (hy : X.N[i]? = some y) (hyl : X.env.scope.names.lookup y = some .local)
    (hsw : swapsWith (.DictComp kx vx [⟨tg, iter, ifs, 0⟩] scope pos) (some (.Name y py)) spos.line X.env = pure true) (hi : PI X tg iter wi) (ok : BlkOk X.N X.env.scope scope own)
    (hg : ∀ (s : Shared) (H : Hp) (C : Addr) (cl : List (Str × Addr)) (fp : List Addr), PG (X.blk s H scope (compEnvC scope cl C X.env) fp) tg g) (ht : ∀ (s : Shared) (H : Hp) (C : Addr) (cl : List (Str × Addr)) (fp : List Addr), PTs (X.blk s H scope (compEnvC scope cl C X.env) fp) ifs tt)
    (hk : ∀ (s : Shared) (H : Hp) (C : Addr) (cl : List (Str × Addr)) (fp : List Addr), PE (X.blk s H scope (compEnvC scope cl C X.env) fp) kx tk)
    (he : ∀ (s : Shared) (H : Hp) (C : Addr) (cl : List (Str × Addr)) (fp : List Addr), PE (X.blk s H scope (compEnvC scope cl C X.env) fp) vx tv) (hs : ∀ x, foldedSetIterable iter X.env x = pure x := by intro _; rfl) :
    PS X (.Assign [.Name y py] (.DictComp kx vx [⟨tg, iter, ifs, 0⟩] scope pos) spos) (tAsg (tDc wi g tt tk tv (own.map (·.2))) (gName i)) := by
  refine ⟨fun pins s σ H D I h => ?_⟩
  rw [exec_Assign_Name_used _ _ _ _ hsw]
  refine wpAny_bind (wpAny_standAt (wpAny_bind ?_))
  show wpAny _ X.A (do let _ ← comprehension (.DictComp kx vx [⟨tg, iter, ifs, 0⟩] scope pos) scope X.env (firstIterPos [⟨tg, iter, ifs, 0⟩] pos) newDict false (eval iter X.env) (some (assign (.Name y py) X.env))) _ _ s
  have h : tDc wi g tt tk tv (own.map (·.2)) σ H (fun x H1 => gName i x σ H1 D.nx) := h
  refine wpAny_bind (thn (dc_core (Qf := fun _ s' => SP X pins D .next s') hc hN I hi ok hg ht hk he hs h fun L C s' m H' I' q hn f => ?_) fun _ s' hq => wpAny_pure (wpAny_pure hq))
  show wpAny _ _ (assign (.Name y py) X.env (.ref L)) _ _ _
  refine wpAny_assign_Name (store_ok2 (v := V.ref L) I' hN hy (.inl hyl) rfl (fun s2 I2 ⟨a, sb, ha⟩ => ?_) (.inr hyl))
  obtain ⟨f0, f1, f2, f3, f4, f5⟩ := f
  have haC : C ≠ a := by
    rcases ha with z | z
    · rw [z]; exact f1
    · exact fun e => f4 y a z e.symm
  refine ⟨m, hn.sameBut sb haC, fun h3 sb3 => ?_⟩
  exact ⟨_, H', I2.turned (t' := s2.toks) (fun b o hb e => (sb3.2 b hb).trans e) f0 f1 f3 f4 f5, q⟩
theorem sw_trueD {kx vx : Expr} {gs : List Comprehension} {scope : Scope} {pos py : Pos} {y : Str} {l : Nat} {env : Env} (hk : env.scope.kind = .function) (hy : env.scope.names.lookup y = some .local) (hl : (py.line == pos.line) = true)
    (ha : (scope.names.any fun (n, k) => n == y && (k == .local || k == .cell)) = false) : swapsWith (.DictComp kx vx gs scope pos) (some (.Name y py)) l env = pure true := by
  have ky : env.kindOf y = some .local := hy
  have hb : env.blockKind = .function := by unfold Env.blockKind; rw [hk]; rfl
  unfold swapsWith
  simp only [hb, ky, ha, Expr.pos, hl]
  rfl
end

/-! ### f(k = v, ..) -/
def perm {ζ : Type} (l : List Nat) (ws : List ζ) : List ζ := l.filterMap fun i => ws[i]?
theorem perm_rel (l : List Nat) {vs : List V} {us : List Value} (r : Vals vs us) : Vals (perm l vs) (perm l us) := by
  induction l with
  | nil => exact .nil
  | cons i l ih =>
    unfold perm
    rw [List.filterMap_cons, List.filterMap_cons]
    cases e : vs[i]? with
    | none =>
      rw [r.none_of e]
      exact ih
    | some v =>
      obtain ⟨u, h1, h2⟩ := r.get e
      rw [h1]
      exact .cons h2 ih
def KwB (K : Fg) (fd : FuncData) (ps ks : List Str) (l : List Nat) : Prop := ∀ (s : Shared) (ws : List Value), K.In s.heap → ws.length = ks.length → BindsTo s fd ⟨[], ks.zip ws⟩ (ps.zip (perm l ws))
theorem kwb_mk {K : Fg} {x qual : Str} {st : Stmt} {f : Addr} {fd : FuncData} {ps ks : List Str} {l : List Nat} (F : Fun K x qual st f fd)
    (h : ∀ (kV doc pm : Value) (an : Option Addr) (cdv ct : Value) (us : List Value), us.length = ks.length → bindArgs (PySem.W.fnOf x qual (defArgs st) (defBody st) (defScope st) .none kV doc pm an cdv ct) ⟨[], ks.zip us⟩ = pure (ps.zip (perm l us))) : KwB K fd ps ks l := by
  obtain ⟨oc, od, kV, doc, pm, an, cdv, ct, osl, rfl, lk, hcd⟩ := F.ex
  exact fun s ws _ hl => .of_eq (h kV doc pm an cdv ct ws hl)
def tCallKw (sp : Sp) (l : List Nat) (m : Nat) (E : XK) (tk : TA) : TE := fun σ H Q => tk σ H fun zs H2 => zs.length = m ∧ sp (perm l zs) H2 Q E
theorem pe_callKw {X : Cx} {CX : CXT} {k : Nat} {f : Addr} {fd : FuncData} {ps ks : List Str} {l : List Nat} {sp : Sp} {E : XK} {x : Str} {p pos : Pos} {kws : List Keyword} {tk : TA} {m : Nat}
    (F : FnOk X.prog X.w X.K X.mg X.base CX k f fd ps sp) (hr : Room k X.A) (hg : Gl X x) (hm : X.mg x = some (.ref f)) (hk : PySem.W.keepIn X.K (.ref f) = true) (hb : KwB X.K fd ps ks l) (hx : Passes CX X E)
    (hkw : PK X kws tk) (hall : (backToKw pos (keywordEach kws X.env)).all (·.1.isSome) = true := by rfl) (hks : (backToKw pos (keywordEach kws X.env)).filterMap (·.1) = ks := by rfl)
    (hm' : m = ks.length := by rfl) (hdb : (x == ("__debug__" : Str)) = false := by decide)
    (hpl : ((backTo pos (starEach [] X.env)).any (·.1) || (backToKw pos (keywordEach kws X.env)).any (·.1.isNone)) = false := by rfl) :
    PE X (.Call (.Name x p) [] kws pos) (tCallKw sp l m E tk) := by
  subst hm'
  refine ⟨fun pins s σ H Q I h => ?_⟩
  refine wpAny_Call_Name_kw (ld_glob I hg hm ?_ hdb)
  refine PySem.W.callWith_KW0 (h₀ := X.base) I.ok.mod.kin hk hall (thn (hkw.run pos pins s σ H _ I h) fun ws s2 ⟨zs, H2, I2, rz, hl, q2⟩ => ⟨I2.kIn, ?_⟩) hpl
  rw [hks]
  have r2 := perm_rel l rz
  refine wpAny_call (codeAny_mono (F.run X.A X.stack s2 H2 ⟨[], ks.zip ws⟩ (perm l ws) (perm l zs) Q E hr I2.env0 (hb s2 ws I2.kIn (by rw [← rz.length]; exact hl)) r2 q2) fun r s' hq => ?_)
  cases r with
  | error e => exact hx pins σ H2 s2 e s' I2 hq
  | ok fl =>
    cases fl with
    | ret u => exact I2.after hq
    | next => exact False.elim hq
    | brk => exact False.elim hq
    | cont => exact False.elim hq
end B
/-! B: rules that the kit has not: zip of a text and a tuple, sum of a tuple, tuple * 1, d.values() as a value -/
namespace B
open PySem L2 PySem.Spec PyProof.Rows
/-! ### zip(text, tuple) -/
def ItzS (K : Fg) (x : Str) (b : Addr) (n : Nat) : It :=
  ⟨fun i H => i < x.cps.size ∧ i < n ∧ ∃ ys : List V, SqT K H b ys ∧ ys.length = n,
    fun i H v H' => ∃ T c y, v = .ref T ∧ H T = none ∧ H' = upd H T (.tup [.str ⟨#[c]⟩, y]) ∧ x.cps[i]? = some c ∧ ∀ ys, SqT K H b ys → ys[i]? = some y,
    fun i H => (x.cps.size ≤ i ∨ n ≤ i) ∧ ∃ ys : List V, SqT K H b ys ∧ ys.length = n⟩
def ZsTn (x : Str) (t : Tok) (b z TI TO i1 i2 : Addr) (n i : Nat) (h : Heap) : Prop := IsZip h z TI TO .none ∧ IsPair h TI (.ref i1) (.ref i2) ∧ (∃ x y, IsPair h TO x y) ∧ h.IsStrIter i1 (strIterType x) x t i ∧ h.IsTupleIter i2 b i ∧ i ≤ x.cps.size ∧ i ≤ n
theorem ti_ne {h : Heap} {i2 b : Addr} {i : Nat} {its : Array Value} (h2 : h.IsTupleIter i2 b i) (p : IsTup h b its) : b ≠ i2 := fun e => by
  obtain ⟨o, ho, hcls, hdat⟩ := id h2
  obtain ⟨o', ho', hc', _⟩ := p
  rw [e, ho] at ho'
  cases ho'
  rw [hcls] at hc'
  have := Value.type.inj hc'
  revert this
  decide
theorem turn_zipS {P : Program} {w : World} {K : Fg} {elts : List Expr} {kk : Nat} {tpos : Pos} {x : Str} {t : Tok} {b z TI TO i1 i2 : Addr} {n : Nat} (D : ZipSep2 z TI TO i1 i2 [i1] [i2, b]) :
    Turn P w K (.Tuple elts kk tpos) (ItzS K x b n) [z, TI, TO, i1, i2] z (ZsTn x t b z TI TO i1 i2 n) where
  mem := by simp
  obj := fun i h st c hc => by
    obtain ⟨hz, hTI, ⟨x, y, hTO⟩, ⟨o1, e1, _, d1⟩, ⟨o2, e2, _, d2⟩, _, _⟩ := st
    simp only [List.mem_cons, List.not_mem_nil, or_false] at hc
    rcases hc with q | q | q | q | q <;> rw [q]
    · exact ⟨_, hz, fun v q => nomatch q⟩
    · exact ⟨_, hTI, fun v q => nomatch q⟩
    · exact ⟨_, hTO, fun v q => nomatch q⟩
    · exact ⟨o1, e1, fun v q => by rw [d1] at q; cases q⟩
    · exact ⟨o2, e2, fun v q => by rw [d2] at q; cases q⟩
  keep := fun i h h' st k => by
    obtain ⟨hz, hTI, ⟨x, y, hTO⟩, ⟨o1, e1, r1⟩, h2, l1, l2⟩ := st
    exact ⟨k z (by simp) _ hz, k TI (by simp) _ hTI, ⟨x, y, k TO (by simp) _ hTO⟩, ⟨o1, k i1 (by simp) _ e1, r1⟩, h2.at fun o q => k i2 (by simp) o q, l1, l2⟩
  item := by
    intro X hP hw hK hc i pins s σ H E I hf st hg
    subst hP hw hK
    obtain ⟨hz, hTI, ⟨x0, y0, hTO⟩, h1, h2, l1, l2⟩ := st
    obtain ⟨g1, g2, ys, hqy, hn⟩ := hg
    obtain ⟨its, rv, p, _⟩ := I.tuple hqy
    have hl : its.length = n := by rw [← rv.length]; exact hn
    have hd : X.A.in1.handled = none := I.ok.hd hc
    refine wpAny_pyNext_zipD2_item D (Draws.text hd i1 x t) (Draws.tuple hd i2 b (ti_ne h2 p) its.toArray) hz hTI hTO h1 ⟨h2, p⟩ g1 (by simpa [hl] using g2) fun u1 u2 h' tk y1 y2 b1 b2 d1 d2 b5 b6 hk => ?_
    have hzl : z < s.heap.objs.size := Heap.lt_size hz
    obtain ⟨c, tc, hcx, rfl⟩ := y1
    obtain ⟨y, hy, ry⟩ : ∃ y, ys[i]? = some y ∧ RelV y u2 := by
      have e2 : its[i]? = some u2 := by simpa using y2
      have hy : ys[i]? = some (ys[i]'(by omega)) := List.getElem?_eq_getElem (by omega)
      obtain ⟨u, e3, r⟩ := rv.get hy
      rw [e2] at e3
      cases e3
      exact ⟨_, hy, r⟩
    refine ⟨_, rfl, wpAny_letOwnedTupleGo_zip (s := { s with heap := h', toks := tk }) b1 fun h'' z'' sb => ?_⟩
    have hT2 : h''.get? s.heap.objs.size = some { cls := .type "tuple", data := .seq #[.str ⟨#[c]⟩ tc, u2] } := (sb.2 _ (Nat.ne_of_gt hzl)).trans b5
    have new : ObjOk X.prog X.w (upd H s.heap.objs.size (.tup [.str ⟨#[c]⟩, y])) h'' s.heap.objs.size (.tup [.str ⟨#[c]⟩, y]) :=
      ⟨by show 2 ≤ sizeLine; decide, [.str ⟨#[c]⟩ tc, u2], .cons ⟨tc, rfl⟩ (.cons ry .nil), ⟨_, hT2, rfl, _, rfl⟩⟩
    have I1 : Inv X pins σ (upd H s.heap.objs.size (.tup [.str ⟨#[c]⟩, y])) { s with heap := h'', toks := tk } :=
      I.turnedNew (t' := tk) (ch := [z, TI, TO, i1, i2]) (fun c o hb q => (sb.2 c (fun q' => hb (by simp [q']))).trans (hk c o (fun q' => hb (by simp [q'])) (fun q' => hb (by simp [q'])) (fun q' => hb (by simp [q'])) (fun q' => hb (by simp [q'])) q)) hf (Nat.le_refl _) new
    refine ⟨.ref s.heap.objs.size, _, I1, rfl, ⟨_, c, y, rfl, I.hok.fresh (Nat.le_refl _), rfl, hcx, fun l hl => by rw [I.tuple_inj hl hqy]; exact hy⟩, ⟨z'', ?_, ⟨Value.str ⟨#[c]⟩ tc, u2, ?_⟩, ?_, ?_, by omega, by omega⟩, fun c hcm => ?_⟩
    · exact (sb.2 _ D.TIz).trans (hk _ _ D.TIz D.TITO D.TIi1 D.TIi2 hTI)
    · exact (sb.2 _ D.TOz).trans b2
    · obtain ⟨o, ho, r⟩ := d1
      exact ⟨o, (sb.2 _ D.zi1.symm).trans ho, r⟩
    · exact d2.1.at fun o q => (sb.2 _ D.zi2.symm).trans q
    · have hlt : c < s.heap.objs.size := by
        simp only [List.mem_cons, List.not_mem_nil, or_false] at hcm
        rcases hcm with q | q | q | q | q <;> rw [q]
        · exact hzl
        · exact Heap.lt_size hTI
        · exact Heap.lt_size hTO
        · obtain ⟨_, e1, _⟩ := h1; exact Heap.lt_size e1
        · obtain ⟨_, e2, _⟩ := h2; exact Heap.lt_size e2
      rw [upd_ne (Nat.ne_of_lt hlt)]
      exact (hf c hcm).1
  done := by
    intro X hP hw hK hc i pins s σ H E I hf st hg
    subst hP hw hK
    obtain ⟨hz, hTI, ⟨x0, y0, hTO⟩, h1, h2, l1, l2⟩ := st
    obtain ⟨hend, ys, hqy, hn⟩ := hg
    obtain ⟨its, rv, p, _⟩ := I.tuple hqy
    have hl : its.length = n := by rw [← rv.length]; exact hn
    have hd : X.A.in1.handled = none := I.ok.hd hc
    have hne : b ≠ i2 := ti_ne h2 p
    have hs : its.toArray.size = n := by simpa using hl
    exact wpAny_pyNext_zipD2_end D (Draws.text hd i1 x t) (Draws.tuple hd i2 b hne its.toArray) hz hTI hTO h1 ⟨h2, p⟩ l1 (by omega) (by omega) fun h' tk hk => ⟨rfl, I.turnedL (t' := tk) (ch := [z, TI, TO, i1, i2]) (fun c o hb q =>
      hk c o (fun q' => hb (by simp [q'])) (fun q' => hb (by simp [q'])) (fun q' => hb (by simp [q'])) (fun q' => hb (by simp [q'])) q) hf⟩
  self := fun A i s Q E st h => wpAny_pyIter_zip st.1 h
theorem zsep {n b : Nat} (h : b < n) : ZipSep2 (n + 4) (n + 2) (n + 3) n (n + 1) [n] [n + 1, b] where
  TIz := Nat.ne_of_lt (by omega)
  TOz := Nat.ne_of_lt (by omega)
  TITO := Nat.ne_of_lt (by omega)
  TIi1 := Nat.ne_of_gt (by omega)
  mem1 := List.mem_cons_self
  zf1 := fun q => absurd (List.mem_singleton.mp q) (Nat.ne_of_gt (by omega))
  Tf1 := fun q => absurd (List.mem_singleton.mp q) (Nat.ne_of_gt (by omega))
  TIi2 := Nat.ne_of_gt (by omega)
  mem2 := List.mem_cons_self
  zf2 := fun q => by rcases List.mem_cons.mp q with e | q; exact absurd e (Nat.ne_of_gt (by omega)); exact absurd (List.mem_singleton.mp q) (Nat.ne_of_gt (by omega))
  Tf2 := fun q => by rcases List.mem_cons.mp q with e | q; exact absurd e (Nat.ne_of_gt (by omega)); exact absurd (List.mem_singleton.mp q) (Nat.ne_of_gt (by omega))
  sep1_2 := fun q => by rcases List.mem_cons.mp q with e | q; exact absurd e (Nat.ne_of_lt (by omega)); exact absurd (List.mem_singleton.mp q) (Nat.ne_of_gt (by omega))
  sep2_1 := fun q => absurd (List.mem_singleton.mp q) (Nat.ne_of_gt (by omega))
def iZipS (K : Fg) (ta : TA) : TI := fun σ H R => ta σ H fun vs H1 => ∃ x b ys, vs = [.str x, .ref b] ∧ SqT K H1 b ys ∧ R (ItzS K x b ys.length) H1
theorem pi_zipS {X : Cx} {e e2 : Expr} {ta : TA} {p pos tpos : Pos} {elts : List Expr} {kk : Nat} (hg : Gl X "zip") (hm : X.mg "zip" = none) (ha : PA X [e, e2] ta)
    (hs : starEach [e, e2] X.env = (false, eval e X.env) :: starEach [e2] X.env := by rfl) (hpl : (backTo pos (starEach [e2] X.env)).any (·.1) = false := by rfl) :
    PI X (.Tuple elts kk tpos) (.Call (.Name "zip" p) [e, e2] [] pos) (iZipS X.K ta) := by
  refine ⟨fun pins s σ H R I h => ?_⟩
  refine Call_ (ld_blt I hg hm PyProof.Rows.boot_zip (PyProof.Rows.callWith_type1 (thn (ha.run pos pins s σ H _ I h) fun us s1 ⟨vs, H1, I1, r1, q1⟩ => ?_) hs hpl))
  obtain ⟨x, b, ys, ex, hqy, q⟩ := q1
  subst ex
  cases r1 with
  | cons r rr =>
    cases rr with
    | cons r' rr =>
      cases rr
      obtain ⟨t, rfl⟩ := r
      cases r'
      obtain ⟨its, rv, p, _⟩ := I1.tuple hqy
      have lb : b < s1.heap.objs.size := by obtain ⟨o, ho, _⟩ := id p; exact Heap.lt_size ho
      refine zip_begins2 (begins_text x t) (begins_tuple b its.toArray) trivial p fun h' hz hTI hTO g1 g2 hsz hk => wpAny_pyIter_zip hz ?_
      have I2 : Inv X pins σ H1 { s1 with heap := h' } := I1.kept (t' := s1.toks) hk
      have fresh5 : ∀ c, c ∈ [s1.heap.objs.size + 4, s1.heap.objs.size + 2, s1.heap.objs.size + 3, s1.heap.objs.size, s1.heap.objs.size + 1] → FpOk X pins H1 c := fun c hcm => by
        have hle : s1.heap.objs.size ≤ c := by
          simp only [List.mem_cons, List.not_mem_nil, or_false] at hcm
          omega
        exact I1.fpOk hle (I1.hok.fresh hle)
      exact ⟨s1.heap.objs.size + 4, [s1.heap.objs.size + 4, s1.heap.objs.size + 2, s1.heap.objs.size + 3, s1.heap.objs.size, s1.heap.objs.size + 1], _, _, H1, rfl, I2, turn_zipS (t := t) (i1 := s1.heap.objs.size) (i2 := s1.heap.objs.size + 1) (TI := s1.heap.objs.size + 2) (TO := s1.heap.objs.size + 3) (zsep lb), ⟨hz, hTI, ⟨_, _, hTO⟩, ⟨_, g1, rfl, rfl⟩, ⟨_, g2, rfl, rfl⟩, Nat.zero_le _, Nat.zero_le _⟩, fresh5, q⟩

/-! ### d.values() as a value -/
def viewHO (v a : Addr) : HO := .ext fun h => h.get? v = some { cls := .type "dict_values", data := .fields #[.ref a] }
def tVals (td : TE) : TE := fun σ H Q => td σ H fun x H1 => ∃ a kvs, x = V.ref a ∧ H1 a = some (.dK kvs) ∧ ∀ v, H1 v = none → Q (.ref v) (upd H1 v (viewHO v a))
section
variable {X : Cx} {o : Expr} {apos mpos : Pos} {td : TE}
theorem pe_vals (hd : PE X o td) (hbase : attributeBase o "values" X.env (eval o X.env) = eval o X.env := by rfl) (hline : (apos.endLine == mpos.line) = true := by rfl) : PE X (.Call (.Attribute o "values" apos) [] [] mpos) (tVals td) := by
  refine ⟨fun pins s σ H Q I h => ?_⟩
  refine wpAny_Call_method0_late hbase hline (thn (hd.run pins s σ H _ I h) fun v s1 ⟨x, H1, I1, r1, a, kvs, ex, ha, q⟩ => ?_)
  subst ex
  obtain rfl : v = Value.ref a := r1
  obtain ⟨_, hsys, vs, rel, dof⟩ := dk_of I1.hok ha
  obtain ⟨ep, dat⟩ := dof.dictAt
  obtain ⟨ob, es, ho, ex, hdat, hko, hpr, hnd⟩ := dat
  refine ⟨"dict", "dict.values", F.plainAttrs_dict, F.slot_dict_values, F.type_dict_values, ⟨ob, ho, ex.1⟩, fun b e => ?_, Calls.callWith_builtin rfl (PySem.evalArgs_none ?_)⟩
  · cases e
    exact ⟨ob, ho, ex.2.1⟩
  refine call_meetsIn F.slot_dict_values ⟨ob, ho, ex.1⟩ F.entry_dict_values (F.args_dict_values_1 _) (meets_dict_values (mixKind X.prog X.w) a hsys) ⟨⟨vs, dof⟩, ?_⟩
  have k1 : ∀ b u, s1.heap.get? b = some u → (s1.heap.push { cls := .type "dict_values", data := .fields #[.ref a] }).get? b = some u := fun b u e => Heap.get?_push_of_some _ e
  have new : ObjOk X.prog X.w (upd H1 s1.heap.objs.size (viewHO s1.heap.objs.size a)) (s1.heap.push { cls := .type "dict_values", data := .fields #[.ref a] }) s1.heap.objs.size (viewHO s1.heap.objs.size a) :=
    ⟨Heap.get?_push_size _ rfl, ⟨_, Heap.get?_push_size _ rfl⟩, fun h1 h2 e k => k _ e⟩
  exact ⟨.ref _, _, I1.laid (t' := s1.toks) k1 (Nat.le_refl _) new, rfl, q _ (I1.hok.fresh (Nat.le_refl _))⟩
/-- the ints of a dict's values, by the view -/
theorem view_at {pins : List (Addr × Obj)} {s : Shared} {σ : L2.St} {H : Hp} (I : L2.Inv X pins σ H s) {v a : Addr} {kvs : List (Key × V)} {is : List Int} (hv : H v = some (viewHO v a)) (ha : H a = some (.dK kvs)) (hi : kvs.map (·.2) = is.map V.int) :
    ∃ vs ep, s.heap.get? v = some { cls := .type "dict_values", data := .fields #[.ref a] } ∧ s.heap.DictAt (mixKind X.prog X.w) a vs ep ∧ vs.length = is.length ∧ kvs.length ≤ sizeLine ∧ ∀ (i : Nat) (u : Value), (∃ k, vs[i]? = some (k, u)) → ∃ x t, is[i]? = some x ∧ u = Value.int x t := by
  obtain ⟨e, _, _⟩ := I.hok v _ hv
  obtain ⟨z, hsys, vs, rel, dof⟩ := dk_of I.hok ha
  obtain ⟨ep, dat⟩ := dof.dictAt
  refine ⟨vs, ep, e, dat, ?_, z, fun i u ⟨k, hk⟩ => ?_⟩
  · have e1 := congrArg List.length hi
    rw [List.length_map, List.length_map] at e1
    rw [← e1]
    exact (KV.length rel).symm
  · obtain ⟨x, h1, h2⟩ := KV.at' rel hk
    have e1 : (kvs.map (·.2))[i]? = some x := by rw [List.getElem?_map, h1] <;> rfl
    rw [hi, List.getElem?_map] at e1
    obtain ⟨j, hj, e2⟩ := Option.map_eq_some_iff.mp e1
    subst e2
    obtain ⟨t, e3⟩ := h2
    exact ⟨j, t, hj, e3⟩
/-- sum(d.values()) -/
def rSumV : List V → Hp → VK → Prop := fun vs H Q => ∃ (v a : Addr) (kvs : List (Key × V)) (is : List Int), vs = [V.ref v] ∧ H v = some (viewHO v a) ∧ H a = some (.dK kvs) ∧ kvs.map (·.2) = is.map V.int ∧ Q (.int is.sum) H
theorem preSum_getD (is : List Int) : ∀ n, n ≤ is.length → preSum (fun i => is.getD i 0) n = (is.take n).sum
  | 0, _ => by simp [preSum]
  | n + 1, h => by
    show preSum _ n + is.getD n 0 = _
    rw [preSum_getD is n (by omega), List.take_add_one, List.getElem?_eq_getElem (by omega), List.sum_append]
    simp [List.getD_eq_getElem?_getD, List.getElem?_eq_getElem (show n < is.length by omega)]
theorem cr_sumV (hc : X.calm = true) : CallR X (.builtin "sum") rSumV := by
  intro pins s σ H xs us Q I r h
  obtain ⟨v, a, kvs, is, rfl, hv, ha, hi, q⟩ := h
  obtain rfl := Vals.ref1 r
  obtain ⟨vs, ep, e, dat, hl, _, hval⟩ := view_at I hv ha hi
  refine call_sum_walkAnyS ?_
  obtain ⟨oI, St, hit, W, st⟩ := (PySem.W.kdl_values (prog := X.prog) (w := X.w) (knd := mixKind X.prog X.w) (d := a) (r := v) (kvs := vs) (ep := ep)).iter X.A.in1 s (I.ok.hd hc) ⟨⟨_, e, rfl, rfl⟩, dat⟩
  refine hit _ _ ⟨s.heap.objs.size, _, _, _, vs.length, _, _, fun i => is.getD i 0, rfl, W.toS, st, fun b hb => ?_, fun i u hu => ?_, fun s' t' hm => ?_⟩
  · show b < (s.heap.push oI).objs.size
    rw [Heap.size_push]
    rcases List.mem_cons.mp hb with e' | hb
    · rw [e']; exact Nat.lt_succ_self _
    · rw [List.mem_singleton.mp hb]; exact Nat.lt_succ_of_lt (by obtain ⟨ob, es, ho, _⟩ := id dat; exact Heap.lt_size ho)
  · obtain ⟨x, t, h1, h2⟩ := hval i u hu
    exact ⟨t, by rw [h2]; show Value.int x t = Value.int (is.getD i 0) t; rw [List.getD_eq_getElem?_getD, h1]; rfl⟩
  · have hk : ∀ b o, s.heap.get? b = some o → s'.heap.get? b = some o := fun b o e =>
      hm.heap b o (fun hI => absurd (Heap.lt_size e) (by rw [List.mem_singleton.mp hI]; exact Nat.lt_irrefl _)) (Heap.get?_push_of_some _ e)
    rw [Moved.eq_with hm]
    refine ⟨.int is.sum, H, I.kept hk, ⟨t', ?_⟩, q⟩
    rw [hl, preSum_getD is _ (Nat.le_refl _), List.take_length]
end

/-! ### sorted(d.values(), reverse=True) -/
section
variable {X : Cx}
def rSortedVR : List V → List V → Hp → VK → Prop := fun vs zs H Q => ∃ (v a : Addr) (kvs : List (Key × V)) (is : List Int), vs = [V.ref v] ∧ zs = [.bl true] ∧ H v = some (viewHO v a) ∧ H a = some (.dK kvs) ∧ kvs.map (·.2) = is.map V.int ∧
  ∀ (ns' : List Int) (p : Addr), ns'.Perm is → OrdB true ns' → H p = none → Q (.ref p) (upd H p (.lst (ns'.map V.int)))
theorem cr_sortedVR (hc : X.calm = true) : CallRK X (.builtin "sorted") [Str.ofString "reverse"] rSortedVR := by
  intro pins s σ H xs zs us ws Q I r rz h
  obtain ⟨v, a, kvs, is, rfl, rfl, hv, ha, hi, q⟩ := h
  obtain rfl := Vals.ref1 r
  obtain ⟨w1, rfl, e1⟩ := vals1 rz
  obtain rfl : w1 = Value.bool true := e1
  obtain ⟨vs, ep, e, dat, hl, hz, hval⟩ := view_at I hv ha hi
  have hz2 : vs.length ≤ sizeLine := by
    rw [hl]
    have := congrArg List.length hi
    rw [List.length_map, List.length_map] at this
    rw [← this]; exact hz
  refine call_function_entry_kw kind_sorted plain_sorted entry_sorted (PyProof.Rows.args_sorted_rev _ _) ?_
  unfold Builtin.«sorted»
  refine wpAny_bind (m := checkCount "sorted" 1 1 _) (wpAny_pure ?_)
  refine wpAny_bind (PySem.W.kdu_collect (A := X.A.in1) (PySem.W.kdl_values (prog := X.prog) (w := X.w) (knd := mixKind X.prog X.w) (d := a) (r := v) (kvs := vs) (ep := ep)) (I.ok.hd hc) ⟨⟨_, e, rfl, rfl⟩, dat⟩ hz2 fun h' tk acc hk hacc => ?_)
  have hal : acc.toList.length = is.length := by rw [Array.length_toList, hacc.1, hl]
  have hS : IntsAre acc.toList is := ints_each hal fun j u e => hval j u (hacc.2 j u (by rw [← Array.getElem?_toList]; exact e))
  have I1 : Inv X pins σ H { s with heap := h', toks := tk } := I.kept hk
  refine wpAny_bind (wpAny_newList ?_ (by rw [hal, ← hl]; exact hz2))
  have hoL : (h'.push (seqObj "list" acc.toList.toArray 0)).get? h'.objs.size = some (seqObj "list" acc.toList.toArray 0) := Heap.get?_push_size _ rfl
  show wpAny _ _ _ _ _ { s with heap := h'.push (seqObj "list" acc.toList.toArray 0), toks := tk }
  refine wpAny_bind (wpAny_holding (wpAny_call_entry_kw slot_list_sort ⟨_, hoL, rfl⟩ entry_list_sort ?_ (PyProof.Rows.args_list_sort_rev _ _)))
  refine SrtR.list_sort_ordR (b := true) SrtO.swo_int hoL (by rw [hal, ← hl]; exact hz2) (fun h2 => SrtO.ints_sortable hS h2) fun out h1 h2 => ⟨_, rfl, ?_⟩
  obtain ⟨ns', k1, k2, k3⟩ := SrtR.ints_outR (b := true) hS h1 h2
  obtain ⟨e', he'⟩ := PyProof.Rows.sortedHeap_at (vs := acc.toList) (out := out.toArray.reverse) hoL
  have hlen : (ns'.map V.int).length ≤ sizeLine := by
    rw [List.length_map, k2.length_eq, ← hl]
    exact hz2
  refine wpAny_pure ⟨_, rfl, .ref h'.objs.size, upd H h'.objs.size (.lst (ns'.map V.int)), I1.laid (t' := tk) (fun b u e => ?_) (Nat.le_refl _)
    (show ObjOk X.prog X.w _ _ _ (.lst (ns'.map V.int)) from ⟨hlen, out.toArray.reverse.toList, e', vals_of_ints k1, by rw [Array.toArray_toList]; exact he'⟩), rfl, q ns' _ k2 k3 (I1.hok.fresh (Nat.le_refl _))⟩
  have hb : b < h'.objs.size := Heap.lt_size e
  show (sortedHeap _ _ _ out.toArray.reverse).get? b = _
  rw [PyProof.Rows.sortedHeap_old (Nat.ne_of_lt hb) (by rw [size_push']; exact Nat.lt_succ_of_lt hb)]
  exact Heap.get?_push_of_some _ e
/-! ### sum(tuple) -/
def rSumT (K : Fg) : List V → Hp → VK → Prop := fun vs H Q => ∃ (a : Addr) (ns : List Int), vs = [V.ref a] ∧ SqT K H a (ns.map V.int) ∧ Q (.int ns.sum) H
theorem cr_sumT (hc : X.calm = true) : CallR X (.builtin "sum") (rSumT X.K) := by
  intro pins s σ H xs us Q I r h
  obtain ⟨a, ns, rfl, hs, q⟩ := h
  obtain ⟨its, rv, hl, _⟩ := I.tuple hs
  obtain rfl := Vals.ref1 r
  have hi := rv.ints
  obtain ⟨xs, hx⟩ := hi.allInts.items
  have hn : numsOf its.toArray.toList = ns := by rw [show its.toArray.toList = its from rfl, hi.numsOf]
  have hl' : s.heap.IsTuple a its.toArray := hl
  rw [hx] at hl' hn
  rw [nums_intItems] at hn
  refine PySem.W.ktm_sumG (I.ok.hd hc) hl' fun h' tk t' hk => ⟨.int ns.sum, H, I.kept hk, ⟨t', ?_⟩, q⟩
  rw [preSum_eq, List.take_of_length_le (by simp), hn]
/-! ### tuple * k, k from 1 on -/
theorem tuple_mul1 (l : Addr) (items : Array Value) (n : Nat) (dd : Option Addr) (sl : Array (Option Value)) (u : Tok) :
    Meets (Builtin.«tuple.__mul__» ⟨[.ref l, .int 1 u], []⟩) (fun _ R s => s.heap.get? l = some { cls := .type "tuple", dict := dd, data := .seq items n, slots := sl } ∧ R (.ok (.ret (Value.ref l))) s) :=
  .of_wp fun prog w A R s h => by
    obtain ⟨hp, g, d, tk, os⟩ := s
    obtain ⟨hl, h⟩ := h
    have f1 := AutoSeq1.idx_int
    have hT : (⟨hp, g, d, tk, os⟩ : Shared).TypeIs (.ref l) "tuple" := ⟨_, hl, rfl⟩
    wp_walk using wpAny_loadPart' hl
    exact ⟨_, rfl, h⟩
def rRepT1 (K : Fg) : R2 := fun x y H Q => ∃ l k xs, x = .ref l ∧ y = .int k ∧ SqT K H l xs ∧ xs ≠ [] ∧ 1 ≤ k ∧ k ≤ 1000 ∧ xs.length ≤ 1000 ∧ (k = 1 → Q (.ref l) H) ∧ (2 ≤ k → ∀ p, H p = none → Q (.ref p) (upd H p (.tup (List.replicate k.toNat xs).flatten)))
theorem op_repT1 : OpR X (binaryOp .Mult) (rRepT1 X.K) := by
  intro pins s σ H x y v u Q I rx ry h
  obtain ⟨l, k, xs, rfl, rfl, hT, hne, h1, h2, hz, q1, q2⟩ := h
  by_cases hk : k = 1
  · cases rx
    obtain ⟨t, rfl⟩ := ry
    subst hk
    obtain ⟨its, r, ⟨⟨cls, dd, data, sl⟩, ho, hc, n, hd⟩, hs⟩ := I.tuple hT
    simp only at hc hd
    subst hc hd
    exact wpAny_binaryOp_repeat_ref (T := "tuple") (U := "int") (by decide) ⟨_, ho, rfl⟩ (fun s' => typeIs_int s' 1 t) noFill_tuple_mul F.fills_int_mul F.slot_int_rmul repeat_tuple F.slot_int_index.lookup
      (call_meets F.slot_int_rmul (typeIs_int s 1 t) F.entry_int_rmul (F.args_int_rmul_2 _ _) (int_rmul_tuple 1 t l its.toArray n dd sl)
        ⟨ho, rfl, ⟨_, ho, rfl⟩, call_meets F.slot_tuple_mul ⟨_, ho, rfl⟩ F.entry_tuple_mul (F.args_tuple_mul_2 _ _) (tuple_mul1 l its.toArray n dd sl t) ⟨ho, .ref l, H, I, rfl, q1 rfl⟩⟩)
  · exact op_repT pins s σ H _ _ v u Q I rx ry ⟨l, k, xs, rfl, rfl, hT, hne, by omega, h2, hz, q2 (by omega)⟩
end
end B
/-! B: the layer over the rules of Bt; dicts that change -/
namespace B
open PySem L2
open PySem.W (Tup T3 T4 Datum DatumOrd)
open Evl (Ex)
section
variable {α β γ : Type} [Py α] [Py β] [Py γ] {K : Fg} {σ : SS} {W W' : Wd} {v : V} {te ta tb : TE} {ε : Ef}
theorem ro_cat {xs ys : List α} (hl : xs.length + ys.length ≤ 100000) : RO K rCat xs ys (xs ++ ys) := fun v u W1 ⟨a, vs, e, s, r⟩ ⟨b, us, e', s', r'⟩ Q k =>
  ⟨a, b, vs, us, e, e', W1.sub.el s, W1.sub.el s', Evl.sz_of (by rw [Reps.len r, Reps.len r']; exact hl), fun p hp =>
    k _ (W1.add p _) (W1.grow_add hp) ⟨p, _, rfl, upd_same, Reps.app (Reps.mono (exExt (W1.grow_add hp).b) r) (Reps.mono (exExt (W1.grow_add hp).b) r')⟩⟩
theorem reps_nil {H : Hp} {vs : List V} {xs : List α} (r : Reps K H vs xs) (h : vs = []) : xs = [] := by
  cases r with
  | nil => rfl
  | cons a b => cases h
theorem ro_catT {xs ys : Tup α} (hl : xs.items.length + ys.items.length ≤ 100000) : RO K (rCatA K) xs ys (Tup.mk (xs.items ++ ys.items)) := fun v u W1 ⟨a, vs, e, s, r⟩ ⟨b, us, e', s', r'⟩ Q k =>
  ⟨a, b, vs, us, e, e', SqT.of (W1.sub.et s), SqT.of (W1.sub.et s'), Evl.sz_of (by rw [Reps.len r, Reps.len r']; exact hl),
    fun h0 => k _ W1 (.refl _ _) ⟨b, us, rfl, s', by rw [reps_nil r h0]; exact r'⟩,
    fun _ h0 => k _ W1 (.refl _ _) ⟨a, vs, rfl, s, by rw [reps_nil r' h0, List.append_nil]; exact r⟩,
    fun _ _ p hp => k _ (W1.add p _) (W1.grow_add hp) ⟨p, _, rfl, upd_same, Reps.app (Reps.mono (exExt (W1.grow_add hp).b) r) (Reps.mono (exExt (W1.grow_add hp).b) r')⟩⟩
theorem rc_sumT {xs : Tup Int} : RC1 K (rSumT K) xs xs.items.sum := fun v W1 ⟨a, vs, e, s, r⟩ Q k => ⟨a, xs.items, by rw [e], by rw [← reps_int r]; exact SqT.of (W1.sub.et s), k _ W1 (.refl _ _) rfl⟩
theorem reps_rep {H : Hp} {vs : List V} {xs : List α} (r : Reps K H vs xs) : ∀ n : Nat, Reps K H (List.replicate n vs).flatten (List.replicate n xs).flatten
  | 0 => .nil
  | n + 1 => by
    rw [List.replicate_succ, List.replicate_succ, List.flatten_cons, List.flatten_cons]
    exact Reps.app r (reps_rep r n)
theorem ro_repT {xs : Tup α} {n : Int} (hne : xs.items ≠ []) (h1 : 1 ≤ n) (h2 : n ≤ 1000) (hl : xs.items.length ≤ 1000) : RO K (rRepT1 K) xs n (Tup.mk (List.replicate n.toNat xs.items).flatten) := fun v u W1 ⟨a, vs, e, s, r⟩ ru Q k =>
  ⟨a, n, vs, e, ru, SqT.of (W1.sub.et s), fun z => hne (reps_nil r z), h1, h2, by rw [Reps.len r]; exact hl, fun h => k _ W1 (.refl _ _) ⟨a, vs, rfl, s, by
      subst h
      simpa using r⟩, fun _ p hp => k _ (W1.add p _) (W1.grow_add hp) ⟨p, _, rfl, upd_same, Reps.mono (exExt (W1.grow_add hp).b) (reps_rep r _)⟩⟩
theorem rc_tupL {xs : List α} : RC1 K (rTupleO K) xs (Tup.mk xs) := fun v W1 ⟨a, vs, e, s, r⟩ Q k => ⟨a, vs, by rw [e], .inl ⟨SqL.of (W1.sub.el s), fun l hl =>
  k _ (W1.add l (.tup vs)) (W1.grow_add hl) ⟨l, vs, rfl, upd_same, Reps.mono (exExt (W1.grow_add hl).b) r⟩⟩⟩
/-- zip of two tuples -/
theorem ei_zipT {xs : Tup α} {ys : Tup β} (ha : EvR ε K ta σ W xs) (hb : EvR ε K tb σ W ys) : EvJ ε K (RZ.iZipA K (tCons ta (tCons tb tNil))) σ W (xs.items.zip ys.items) := fun W1 g1 R k => ha W1 g1 _ fun v W2 g2 r1 => hb W2 (g1.trans g2) _ fun u W3 g3 r2 => by
  obtain ⟨a, vs, e, s, r⟩ := rep_s g3 r1
  obtain ⟨b, us, e', s', r'⟩ := r2
  refine ⟨a, b, vs, us, by rw [e, e'], .inr ⟨SqT.of (W3.sub.et s), SqT.of (W3.sub.et s'), k (RZ.ItzT K a b) W3 (g2.trans g3) ⟨fun i W' o hi => ?_, fun i W' v H'' o hi ⟨T, x, y, e1, hT, e2, e3, e4⟩ => ?_, fun i W' o hi => ?_⟩⟩⟩
  · have hi' : i < xs.items.length ∧ i < ys.items.length := by simp at hi; omega
    obtain ⟨x, hx⟩ : ∃ x, xs.items[i]? = some x := ⟨xs.items[i], by simp [hi'.1]⟩
    obtain ⟨y, hy⟩ : ∃ x, ys.items[i]? = some x := ⟨ys.items[i], by simp [hi'.2]⟩
    obtain ⟨v, h1, _⟩ := Reps.get' r hx
    obtain ⟨u, h2, _⟩ := Reps.get' r' hy
    exact ⟨vs, us, v, u, SqT.of (W'.sub.et (o.b _ _ s)), SqT.of (W'.sub.et (o.b _ _ s')), h1, h2⟩
  · obtain ⟨p, h1, h2⟩ := Reps.get r (e3 vs (SqT.of (W'.sub.et (o.b _ _ s))))
    obtain ⟨q, h3, h4⟩ := Reps.get r' (e4 us (SqT.of (W'.sub.et (o.b _ _ s'))))
    refine ⟨(p, q), W'.add T _, e2.symm, W'.grow_add hT, ?_, T, x, y, e1, upd_same, rep_g (W'.grow_add hT) (rex o.b h2), rep_g (W'.grow_add hT) (rex o.b h4)⟩
    rw [List.getElem?_zip_eq_some]
    exact ⟨h1, h3⟩
  · refine ⟨vs, us, SqT.of (W'.sub.et (o.b _ _ s)), SqT.of (W'.sub.et (o.b _ _ s')), ?_⟩
    rw [Reps.len r, Reps.len r']
    simp at hi
    omega
def signs (x : Str) : List Str := x.cps.toList.map fun c => ⟨#[c]⟩
/-- zip of a text and a tuple -/
theorem ei_zipS {x : Str} {ys : Tup β} (ha : EvR ε K ta σ W x) (hb : EvR ε K tb σ W ys) : EvJ ε K (iZipS K (tCons ta (tCons tb tNil))) σ W ((signs x).zip ys.items) := fun W1 g1 R k => ha W1 g1 _ fun v W2 g2 r1 => hb W2 (g1.trans g2) _ fun u W3 g3 r2 => by
  have e : v = .str x := r1
  obtain ⟨b, us, e', s', r'⟩ := r2
  have hl := Reps.len r'
  have hs : (signs x).length = x.cps.size := by simp [signs]
  refine ⟨x, b, us, by rw [e, e'], SqT.of (W3.sub.et s'), k (ItzS K x b us.length) W3 (g2.trans g3) ⟨fun i W' o hi => ?_, fun i W' v H'' o hi ⟨T, c, y, e1, hT, e2, e3, e4⟩ => ?_, fun i W' o hi => ?_⟩⟩
  · rw [List.length_zip, hs] at hi
    exact ⟨by omega, by omega, us, SqT.of (W'.sub.et (o.b _ _ s')), rfl⟩
  · obtain ⟨q, h3, h4⟩ := Reps.get r' (e4 us (SqT.of (W'.sub.et (o.b _ _ s'))))
    refine ⟨(⟨#[c]⟩, q), W'.add T _, e2.symm, W'.grow_add hT, ?_, T, _, y, e1, upd_same, rfl, rep_g (W'.grow_add hT) (rex o.b h4)⟩
    rw [List.getElem?_zip_eq_some]
    refine ⟨?_, h3⟩
    unfold signs
    rw [List.getElem?_map, Array.getElem?_toList, e3]
    rfl
  · rw [List.length_zip, hs] at hi
    exact ⟨by omega, us, SqT.of (W'.sub.et (o.b _ _ s')), rfl⟩
theorem kreps_ints {κ : Type} [PyKey κ] {H : Hp} {ks : List (Key × V)} {kv : List (κ × Int)} (r : KReps K H ks kv) : ks.map (·.2) = (kv.map (·.2)).map V.int := by
  induction r with
  | nil => rfl
  | cons a b ih => rw [List.map_cons, List.map_cons, List.map_cons, ih, show _ = _ from a.2]
/-- sorted(d.values(), reverse=True): what falls with the same items -/
theorem ev_sortedVR {κ : Type} [PyKey κ] {d : Dict κ Int} {ys : List Int} (h : EvD ε K te σ W d) (hp : ys.Perm (d.kv.map (·.2))) (ho : ys.Pairwise (· ≥ ·)) : EvR ε K (tCKw rSortedVR (tCons (tVals te) tNil) (tCons (tC (.bl true)) tNil)) σ W ys := fun W1 g1 Q k => h W1 g1 _ fun v W2 g2 ⟨a, ks, e, hB, hH, r⟩ =>
  ⟨a, ks, e, hH, fun w hw => by
    have ne : a ≠ w := fun z => by rw [z, hw] at hH; cases hH
    have gw := W2.grow_put (o := viewHO w a) hw
    refine ⟨w, a, ks, d.kv.map (·.2), rfl, rfl, upd_same, (upd_ne ne).trans hH, kreps_ints r, fun ns' p h1 h2 hp0 => ?_⟩
    have e2 : ns' = ys := (h1.trans hp.symm).eq_of_pairwise (fun a b _ _ h h' => Int.le_antisymm h' h) (show ns'.Pairwise (· ≥ ·) from h2) ho
    subst e2
    exact k _ ((W2.put w _ (W2.free hw)).add p _) ((g2.and gw).and (Wd.grow_add _ hp0)) ⟨p, _, rfl, upd_same, int_reps _⟩⟩
theorem ev_sumV {κ : Type} [PyKey κ] {d : Dict κ Int} (h : EvD ε K te σ W d) : EvR ε K (tCB rSumV (tCons (tVals te) tNil)) σ W (d.kv.map (·.2)).sum := fun W1 g1 Q k => h W1 g1 _ fun v W2 g2 ⟨a, ks, e, hB, hH, r⟩ =>
  ⟨a, ks, e, hH, fun w hw => by
    have ne : a ≠ w := fun z => by rw [z, hw] at hH; cases hH
    exact ⟨w, a, ks, d.kv.map (·.2), rfl, upd_same, (upd_ne ne).trans hH, kreps_ints r, k _ (W2.put w _ (W2.free hw)) (g2.and (W2.grow_put hw)) rfl⟩⟩
end
/-- what is new may change unseen -/
theorem Md.fresh {S : List Addr} {W W1 W2 : Wd} {d : Addr} (a : Md S W W1) (b : Md (d :: S) W1 W2) (f : W.H d = none) : Md S W W2 := ⟨a.b.trans b.b, fun x o h1 h2 => b.l x o (a.b x o h1) (a.l x o h1 h2), fun x o h1 h2 => b.o x o (fun z => by
    rcases List.mem_cons.mp z with e | z
    · rw [e, f] at h2; cases h2
    · exact h1 z) (a.o x o h1 h2), fun x hx => by rw [b.m x (a.n x hx), a.m x hx], fun x hx => b.d x (a.d x hx), fun x hx => b.n x (a.n x hx)⟩
/-! ### dicts that change -/
structure DMut {κ α : Type} [PyKey κ] [Py α] (K : Fg) (W : Wd) (d : Addr) (kv : List (κ × α)) : Prop where
  b : W.B d = none
  ex : ∃ ks, W.H d = some (.dK ks) ∧ KReps K W.B ks kv
section
variable {κ α : Type} [DecidableEq κ] [PyKey κ] [Py α] {K : Fg} {W W' : Wd} {d : Addr} {kv : List (κ × α)} {ε : Ef} {σ : SS} {S : List Addr} {ty tv tx te : TE}
theorem DMut.nt (m : DMut K W d kv) : Nt W.H d := by
  obtain ⟨ks, e, _⟩ := m.ex
  exact .k e
theorem DMut.g (m : DMut K W d kv) (g : Md S W W') (h : d ∉ S) : DMut K W' d kv := by
  obtain ⟨ks, e, r⟩ := m.ex
  have := g.mut h e m.b
  exact ⟨this.2, ks, this.1, KReps.mono (exExt g.b) r⟩
theorem DMut.gr (m : DMut K W d kv) (g : Grow W W') : DMut K W' d kv := m.g g (by simp)
theorem DMut.s (m : DMut K W d kv) (g : Stp ε W W') (h : d ∉ ε.S) : DMut K W' d kv := m.g g.md h
theorem DMut.new (W : Wd) {d : Addr} (h : W.H d = none) : DMut K (W.put d (.dK []) (W.free h)) d ([] : List (κ × α)) := ⟨W.free h, [], upd_same, .nil⟩
/-- d[k] = v -/
theorem s_dput {D : Ends} {i : Nat} {k : κ} {x : α} (hd : σ[i]? = some (some (.ref d))) (m : DMut K W d kv) (hv : EvR pur K tv σ W x) (hk : EvP pur ty σ W (fun u _ => u = kV (PyKey.key k))) (hl : kv.length < 100000)
    (q : ∀ W', Md [d] W W' → On W W' → DMut K W' d (kput kv k x) → D.nx σ W'.H) : sDPut (tVar i) ty tv D σ W.H := hv W (.start trivial) _ fun v W1 g1 rv => ⟨.ref d, hd, hk W1 g1 _ fun u W2 g2 e => by
  have g := (g1.trans g2).pure
  obtain ⟨ks, e1, r⟩ := (m.gr g).ex
  have b := (m.gr g).b
  refine ⟨d, _, rfl, .inl ⟨ks, PyKey.key k, e1, e, by rw [KReps.len r]; exact Evl.sz_lt hl, rfl⟩, q (W2.put d _ b) ((Grow.s g).trans (md_put b)) (g.on.trans (md_put b).on) ⟨b, _, upd_same, KReps.put r k (rep_s g2 rv)⟩⟩⟩
theorem ek_of [Py κ] {k : κ} (hv : ∀ {H : Hp} {v : V}, rep K H v k → v = kV (PyKey.key k)) (h : EvR ε K te σ W k) : EvP ε te σ W (fun u _ => u = kV (PyKey.key k)) := fun W1 g1 Q q => h W1 g1 _ fun v W2 g2 r => q v W2 g2 (hv r)
theorem ek_int {n : Int} (h : EvR ε K te σ W n) : EvP ε te σ W (fun u _ => u = kV (PyKey.key n)) := ek_of (fun r => r) h
theorem ek_str {n : Str} (h : EvR ε K te σ W n) : EvP ε te σ W (fun u _ => u = kV (PyKey.key n)) := ek_of (fun r => r) h
theorem klk {H : Hp} {ks : List (Key × V)} (r : KReps K H ks kv) (k : κ) : (klook kv k = none ∧ valV ks (PyKey.key k) = none) ∨ ∃ x v, klook kv k = some x ∧ valV ks (PyKey.key k) = some v ∧ rep K H v x := by
  cases e : klook kv k with
  | none => exact .inl ⟨rfl, r.none e⟩
  | some x =>
    obtain ⟨v, h1, h2⟩ := r.some e
    exact .inr ⟨x, v, rfl, h1, h2⟩
/-- d.get(k, x) -/
theorem ev_dget2 {i : Nat} {k : κ} {x : α} (hd : σ[i]? = some (some (.ref d))) (m : DMut K W d kv) (hS : d ∉ ε.S) (hk : EvP ε ty σ W (fun u _ => u = kV (PyKey.key k))) (hx : EvR ε K tx σ W x) : EvR ε K (tDGet2 (tVar i) ty tx) σ W ((klook kv k).getD x) := fun W1 g1 Q q => by
  obtain ⟨ks, e1, r⟩ := (m.s g1 hS).ex
  refine ⟨_, hd, d, rfl, .inl ⟨ks, .inl e1⟩, hk W1 g1 _ fun u W2 g2 eu => hx W2 (g1.trans g2) _ fun w W3 g3 rw => ?_⟩
  obtain ⟨ks, e3, r⟩ := (m.s ((g1.trans g2).trans g3) hS).ex
  rcases klk r k with ⟨h1, h2⟩ | ⟨y, v, h1, h2, h3⟩
  · exact ⟨none, .inl ⟨ks, _, .inl e3, eu, h2.symm⟩, q _ W3 (g2.trans g3) (by rw [h1]; exact rw)⟩
  · exact ⟨some v, .inl ⟨ks, _, .inl e3, eu, h2.symm⟩, q _ W3 (g2.trans g3) (by rw [h1]; exact h3)⟩
/-- it shall stay -/
theorem DMut.fix (m : DMut K W d kv) : ∃ o, ∃ h : W.H d = some o, DictAt K (W.fix d o h) (.ref d) ⟨kv⟩ ∧ Ex W.B (W.fix d o h).B ∧ ∀ W0 S, Md S W0 W → W0.H d = none → Md S W0 (W.fix d o h) := by
  obtain ⟨ks, e, r⟩ := m.ex
  exact ⟨_, e, ⟨d, ks, rfl, upd_same, e, KReps.mono (exExt (ex_fix e m.b)) r⟩, ex_fix e m.b, fun W0 S g f => md_fix g e m.b f⟩
end
/-! ### dicts with tuples of ints as keys -/
structure TMut (W : Wd) (d : Addr) (ks : List (List Key)) : Prop where
  b : W.B d = none
  ex : ∃ kvs, W.H d = some (.dT kvs) ∧ kvs.map (·.1) = ks
section
variable {W W' : Wd} {d : Addr} {ks : List (List Key)} {S : List Addr} {K : Fg} {σ : SS} {ty tv te : TE} {ε : Ef}
theorem TMut.nt (m : TMut W d ks) : Nt W.H d := by
  obtain ⟨k, e, _⟩ := m.ex
  exact ⟨_, e, fun _ z => by cases z⟩
theorem TMut.g (m : TMut W d ks) (g : Md S W W') (h : d ∉ S) : TMut W' d ks := by
  obtain ⟨k, e, r⟩ := m.ex
  have := g.mut h e m.b
  exact ⟨this.2, k, this.1, r⟩
theorem TMut.gr (m : TMut W d ks) (g : Grow W W') : TMut W' d ks := m.g g (by simp)
def tput (ks : List (List Key)) (k : List Key) : List (List Key) := if (ks.any fun x => decide (x = k)) = true then ks else ks ++ [k]
theorem tput_keys (kvs : List (List Key × V)) (k : List Key) (v : V) : (putK kvs k v).map (·.1) = tput (kvs.map (·.1)) k := by
  unfold putK tput
  have : (kvs.any fun kv => decide (kv.1 = k)) = ((kvs.map (·.1)).any fun x => decide (x = k)) := by
    rw [List.any_map]
    rfl
  by_cases h : (kvs.any fun kv => decide (kv.1 = k)) = true
  · rw [if_pos h, if_pos (this ▸ h), List.map_map]
    refine List.map_congr_left fun q _ => ?_
    show (if q.1 = k then (q.1, v) else q).1 = q.1
    split <;> rfl
  · rw [if_neg h, if_neg (fun z => h (this ▸ z)), List.map_append]
    rfl
theorem tput_mem {ks : List (List Key)} {k j : List Key} : j ∈ tput ks k ↔ j ∈ ks ∨ j = k := by
  unfold tput
  split
  · rename_i h
    obtain ⟨x, hx, e⟩ := List.any_eq_true.mp h
    have e' : x = k := of_decide_eq_true e
    exact ⟨.inl, fun z => z.elim id fun e => by rw [e, ← e']; exact hx⟩
  · simp
theorem tput_len (ks : List (List Key)) (k : List Key) : (tput ks k).length ≤ ks.length + 1 := by
  unfold tput
  split <;> simp
def ikey (xs : List Int) : List Key := xs.map Sum.inl
theorem ikey_vals {xs : List Int} : (ikey xs).map kV = xs.map V.int := by
  unfold ikey
  rw [List.map_map]
  rfl
theorem s_tput {α : Type} [Py α] {D : Ends} {i : Nat} {k : Tup Int} {x : α} (hd : σ[i]? = some (some (.ref d))) (m : TMut W d ks) (hv : EvR pur K tv σ W x) (hk : EvR pur K ty σ W k) (hl : ks.length ≤ 1000000)
    (q : ∀ W', Md [d] W W' → On W W' → TMut W' d (tput ks (ikey k.items)) → D.nx σ W'.H) : sDPut (tVar i) ty tv D σ W.H := hv W (.start trivial) _ fun v W1 g1 rv => ⟨.ref d, hd, hk W1 g1 _ fun u W2 g2 ⟨b, vs, e, s, r⟩ => by
  have g := (g1.trans g2).pure
  obtain ⟨kvs, e1, r1⟩ := (m.gr g).ex
  have bd := (m.gr g).b
  have len : kvs.length = ks.length := by rw [← r1, List.length_map]
  refine ⟨d, _, rfl, .inr ⟨kvs, ikey k.items, b, e1, e, ?_, by rw [len, PySem.sizeLine_eq]; omega, rfl⟩, q (W2.put d _ bd) ((Grow.s g).trans (md_put bd)) (g.on.trans (md_put bd).on) ⟨bd, _, upd_same, by rw [tput_keys, r1]⟩⟩
  rw [ikey_vals, ← reps_int r]
  exact W2.sub.et s⟩
abbrev rListDT : List V → Hp → VK → Prop := fun xs H Q => ∃ d kvs, xs = [V.ref d] ∧ Rd H d (.dT kvs) ∧ ∀ p bs, H p = none → IsKeys H kvs bs → Q (.ref p) (upd H p (.lst (bs.map V.ref)))
/-- list(d) -/
theorem ev_listDT {i : Nat} {xs : List (Tup Int)} (hd : σ[i]? = some (some (.ref d))) (m : TMut W d ks) (hx : ks = xs.map fun t => ikey t.items) : EvR pur K (tCB rListDT (tCons (tVar i) tNil)) σ W xs := fun W1 g1 Q q => by
  obtain ⟨kvs, e1, r1⟩ := (m.gr g1.pure).ex
  refine ⟨_, hd, d, kvs, rfl, .inl e1, fun p bs hp hk => ?_⟩
  have gt := W1.grow_tup bs
  have hp' : (W1.tup bs).H p = none := hp
  refine q _ ((W1.tup bs).add p _) (.of (gt.trans (Wd.grow_add _ hp'))) ⟨p, _, rfl, upd_same, ?_⟩
  have rB : Reps K (W1.tup bs).B (bs.map V.ref) xs := by
    subst hx
    clear q e1
    have main : ∀ (kvs : List (List Key × V)) (bs' : List Addr) (xs : List (Tup Int)), (∀ b ∈ bs', b ∈ bs) → IsKeys W1.H kvs bs' → kvs.map (·.1) = xs.map (fun t => ikey t.items) → Reps K (W1.tup bs).B (bs'.map V.ref) xs := by
      intro kvs
      induction kvs with
      | nil =>
        intro bs' xs _ hk hm
        cases hk
        cases xs with
        | nil => exact .nil
        | cons x xs => cases hm
      | cons kv kvs ih =>
        intro bs' xs hs hk hm
        cases hk with
        | cons h1 h2 =>
          cases xs with
          | nil => cases hm
          | cons x xs =>
            rw [List.map_cons, List.map_cons] at hm
            injection hm with hm1 hm2
            refine .cons ⟨_, _, rfl, Wd.tup_at h1 (hs _ List.mem_cons_self), ?_⟩ (ih _ _ (fun b hb => hs b (List.mem_cons_of_mem _ hb)) h2 hm2)
            rw [hm1, ikey_vals]
            exact int_reps _
    exact main kvs bs xs (fun _ h => h) hk r1
  exact Reps.mono (exExt (Wd.grow_add _ hp').b) rB
end
/-! ### [e for x in ..] where e is drawn -/
section
variable {α β : Type} [Py α] [Py β] {K : Fg} {σ : SS} {W W' : Wd} {v : V} {te : TE} {wi : TI} {ε : Ef}
/-- what is walked, not known whole -/
def EvIQ {α : Type} [Py α] (ε : Ef) (K : Fg) (wi : TI) (σ : SS) (W : Wd) (P : List α → Prop) : Prop :=
  ∀ W1, Stp ε W W1 → ∀ R : It → Hp → Prop, (∀ J S W2 xs, P xs → Stp ε W1 W2 → S W2 → (∀ W W', S W → Stp ε W W' → S W') → Src K J S xs → R J W2.H) → wi σ W1.H R
theorem EvI.q {xs : List α} (h : EvI ε K wi σ W xs) : EvIQ ε K wi σ W (fun ys => ys = xs) := fun W1 g1 R k => h W1 g1 R fun J S W2 g2 s sg src => k J S W2 xs rfl g2 s sg src
theorem ei_rngQ {P : Int → Prop} (h : EvP ε te σ W (fun v _ => ∃ n, v = .int n ∧ P n)) (hb : ∀ n, P n → n ≤ 1000000000 ∧ -1000000000 ≤ n) : EvIQ (α := Int) ε K (iRng1 (tCons te tNil)) σ W (fun xs => ∃ n, P n ∧ xs = rng 0 n.toNat) := fun W1 g1 R k => h W1 g1 _ fun v W2 g2 ⟨n, e, p⟩ =>
  ⟨n, by rw [e], by have := hb n p; omega, by have := hb n p; omega, k _ (fun _ => True) W2 _ ⟨n, p, rfl⟩ g2 trivial (fun _ _ _ _ => trivial) src_range⟩
theorem en_lcQ {j : Nat} {P : List α → Prop} {R : β → Prop} (hi : EvIQ ε K wi σ W P) (hl : ∀ xs, P xs → xs.length ≤ 100000) (he : ∀ (x : α) v W', Stp ε W W' → rep K W'.B v x → EvP ε te ((wipe σ [j]).set j (some v)) W' (fun u W2 => ∃ y : β, R y ∧ rep K W2.B u y)) :
    ∀ W1, Stp ε W W1 → ∀ Q : VK, (∀ p vs (xs : List α) (ys : List β) W2, P xs → Stp ε W1 W2 → W1.H p = none → W2.B p = none → W2.H p = some (.lst vs) → Reps K W2.B vs ys → ys.length = xs.length → (∀ y ∈ ys, R y) → Q (.ref p) W2.H) → tLc wi (gName j) tYes te [j] σ W1.H Q := fun W1 g1 Q k =>
  hi W1 g1 _ fun J S W2 xs hP g2 s2 sg src D hD => by
    have hl := hl xs hP
    have DS : D ∉ ε.S := Ef.off g2.i hD
    refine ⟨fun i m H => m = xs.length - i ∧ i ≤ xs.length ∧ ∃ Wi acc ys, Wi.H = H ∧ Stp ε W2 Wi ∧ Wi.B D = none ∧ Wi.H D = some (.lst acc) ∧ Reps K Wi.B acc ys ∧ ys.length = i ∧ ∀ y ∈ ys, R y, ⟨xs.length, rfl, Nat.zero_le _, W2.put D (.lst []) (W2.free hD), [], ([] : List β), rfl, ⟨md_mut (.refl _ _) (W2.free hD) hD, i_put DS g2.i _⟩, W2.free hD, upd_same, .nil, rfl, by simp⟩, ?_⟩
    rintro i m H ⟨rfl, hle, Wi, acc, ys, rfl, gi, bD, hDi, rs, hyl, hR⟩
    have si : S Wi := sg _ _ s2 gi
    have hacc : acc.length ≤ i := by rw [Reps.len rs, hyl]; exact Nat.le_refl _
    by_cases hlt : i < xs.length
    · refine .inr ⟨src.go i Wi si hlt, fun H => i + 1 ≤ xs.length ∧ ∃ Wi acc ys, Wi.H = H ∧ Stp ε W2 Wi ∧ Wi.B D = none ∧ Wi.H D = some (.lst acc) ∧ Reps K Wi.B acc (ys : List β) ∧ ys.length = i + 1 ∧ ∀ y ∈ ys, R y, fun H' h' => ⟨_, by omega, rfl, h'⟩, fun v H'' hy => ?_⟩
      obtain ⟨x, W3, rfl, g3', hx, r⟩ := src.yld i Wi v H'' si hlt hy
      have g3 : Stp ε Wi W3 := gi.rf.and g3'
      have m3 := g3.md.mut DS hDi bD
      refine ⟨wipe1, ?_⟩
      refine et_yes (ε := ε) W3 g3.rf _ fun W4 g4 => ?_
      rw [if_pos rfl]
      have m4 := g4.md.mut DS m3.1 m3.2
      refine he x v W4 ((((g1.trans g2).trans gi).trans g3).trans g4) (rep_s g4 r) W4 g4.rf _ fun u W5 g5 ⟨y, hy1, r5⟩ => ?_
      have m5 := g5.md.mut DS m4.1 m4.2
      refine ⟨acc, m5.1, Evl.sz_lt (by omega), hlt, W5.put D _ m5.2, acc ++ [u], ys ++ [y], rfl, ⟨md_mut (((gi.trans g3).trans g4).trans g5).md m5.2 hD, i_put DS g5.i _⟩, m5.2, upd_same, Reps.snoc (Reps.mono (exExt ((g3.trans g4).trans g5).md.b) rs) r5, by rw [List.length_append, hyl]; rfl, fun z hz => ?_⟩
      rcases List.mem_append.mp hz with h | h
      · exact hR z h
      · rw [List.mem_singleton.mp h]; exact hy1
    · have e : i = xs.length := by omega
      subst e
      exact .inl ⟨src.stop _ Wi si (Nat.le_refl _), k D acc xs ys Wi hP (g2.trans gi) (by
        cases e : W1.H D with
        | none => rfl
        | some o => exact absurd hD (g2.md.d D (by rw [e]; exact fun z => by cases z))) bD hDi rs hyl hR⟩
theorem ep_lcQ {j : Nat} {P : List α → Prop} {R : β → Prop} (hi : EvIQ ε K wi σ W P) (hl : ∀ xs, P xs → xs.length ≤ 100000) (he : ∀ (x : α) v W', Stp ε W W' → rep K W'.B v x → EvP ε te ((wipe σ [j]).set j (some v)) W' (fun u W2 => ∃ y : β, R y ∧ rep K W2.B u y)) :
    EvP ε (tLc wi (gName j) tYes te [j]) σ W (fun v W' => ∃ (xs : List α) (ys : List β), P xs ∧ ys.length = xs.length ∧ (∀ y ∈ ys, R y) ∧ rep K W'.B v ys) := fun W1 g1 Q k =>
  en_lcQ hi hl he W1 g1 Q fun p vs xs ys W2 hP g2 f n e r hly hR => k _ (W2.fix p _ e) (g2.fix f g1.i e n) ⟨xs, ys, hP, hly, hR, p, vs, rfl, upd_same, Reps.mono (exExt (ex_fix e n)) r⟩
/-- m + a drawn number -/
theorem ep_add {m : Int} {P : Int → Prop} (h : EvP ε te σ W (fun v _ => ∃ n, v = .int n ∧ P n)) : EvP ε (tOp oAdd (tC (.int m)) te) σ W (fun v _ => ∃ n, v = .int (m + n) ∧ P n) := fun W1 g1 Q k => h W1 g1 _ fun v W2 g2 ⟨n, e, p⟩ =>
  ⟨m, n, rfl, e, k _ W2 g2 ⟨n, rfl, p⟩⟩
/-- a drawn number == m -/
theorem ep_eq (K0 : Fg) {m : Int} {P : Int → Prop} (h : EvP ε te σ W (fun v _ => ∃ n, v = .int n ∧ P n)) : EvP ε (tOp rEq te (tC (.int m))) σ W (fun v _ => ∃ b : Bool, v = .bl b) := fun W1 g1 Q k => h W1 g1 _ fun v W2 g2 ⟨n, e, p⟩ => by
  subst e
  exact ro_eqI (K := K0) _ _ W2 rfl rfl Q fun w W3 g3 r => k w W3 (g2.and g3) ⟨_, r⟩
/-- a test that is drawn -/
def EvTQ (ε : Ef) (tt : TT) (σ : SS) (W : Wd) : Prop := ∀ W1, Stp ε W W1 → ∀ Q : Bool → Hp → Prop, (∀ b W2, Stp ε W1 W2 → Q b W2.H) → tt σ W1.H Q
theorem etq (h : EvP ε te σ W (fun v _ => ∃ b : Bool, v = .bl b)) : EvTQ ε (tTest te) σ W := fun W1 g1 Q k => h W1 g1 _ fun v W2 g2 ⟨b, e⟩ => ⟨b, e, k b W2 g2⟩
theorem q_whenQ {D : Ends} {t : TT} {tu tz : TS} (h : EvTQ ε t σ W) (s : ε.I W) (h1 : ∀ W', Stp ε W W' → tu { D with nx := tz D } σ W'.H) (h2 : ∀ W', Stp ε W W' → tz D σ W'.H) : tSeq (tIfS t tu tNext) tz D σ W.H := h W (.start s) _ fun b W' g => by
  cases b with
  | true => exact h1 W' g
  | false => exact h2 W' g
/-- both ways meet again in R -/
theorem q_whenJ {D : Ends} {t : TT} {tu tz : TS} (R : Wd → Prop) (h : EvTQ ε t σ W) (s : ε.I W) (k : ∀ W', R W' → tz D σ W'.H) (h1 : ∀ W', Stp ε W W' → (∀ W'', R W'' → tz D σ W''.H) → tu { D with nx := tz D } σ W'.H) (h2 : ∀ W', Stp ε W W' → R W') : tSeq (tIfS t tu tNext) tz D σ W.H :=
  q_whenQ h s (fun W' g => h1 W' g k) (fun W' g => k W' (h2 W' g))
end
end B
/-! B: == of own instances, methods called by keywords alone -/
namespace B
open PySem L2 PySem.Spec PyProof.Rows
section
variable {X : Cx} {CX : CXT} {k : Nat} {f C : Addr} {fd : FuncData} {ps ks : List Str} {sp : Sp} {E : XK} {o : Expr} {ta : TE} {tk : TA} {kws : List Keyword} {m : Str} {apos pos : Pos}
/-- x == y, two instances of the class at C, whose own __eq__ keeps the promise sp -/
def rInsEq (C : Addr) (sp : Sp) (E : XK) : R2 := fun x y H Q => ∃ a b dx dy fs gs, x = .ref a ∧ y = .ref b ∧ H a = some (.ins C dx fs) ∧ H b = some (.ins C dy gs) ∧ sp [x, y] H Q E
theorem op_insEq (F : FnOk X.prog X.w X.K X.mg X.base CX k f fd ps sp) (hr : Room k X.A) (hm : Meth X.K C "__eq__" f) (hb : Binds X.K fd ps []) (hx : Passes CX X E) : OpR X (compareOp .Eq) (rInsEq C sp E) := by
  intro pins s σ H x y v u Q I rx ry h
  obtain ⟨a, b, dx, dy, fs, gs, rfl, rfl, ha, hb', q⟩ := h
  cases (show v = Value.ref a from rx)
  cases (show u = Value.ref b from ry)
  obtain ⟨mA, J, _⟩ := ins_get I.hok ha
  obtain ⟨mB, J', _⟩ := ins_get I.hok hb'
  obtain ⟨od, J, _⟩ := J.look
  obtain ⟨od', J', _⟩ := J'.look
  obtain ⟨m, hF⟩ := I.fr
  show wpAny (model X.prog X.w) X.A (richCompare .Eq (.ref a) (.ref b)) (EP X pins σ Q) X.xe s
  refine PySem.W.cmp_K (op := .Eq) (tb := .ref C) hr.units0 hF I.ok.mod.kin J J'.type (by simp [PySem.W.notFirst]) hm.at_ hm.fn ?_
  refine wpAny_mono (run_fn (us := [.ref a, .ref b]) (vs := [.ref a, .ref b]) (dvs := []) F hr hb .nil hx I (.cons rfl (.cons rfl .nil)) q) (fun w s' z => ?_) fun _ _ x => x
  obtain ⟨z', H', I', rz, qz⟩ := z
  exact SlX.cmpback rz ⟨z', H', I', rz, qz⟩
/-- how a method binds keywords alone, self ahead -/
def KwM (K : Fg) (fd : FuncData) (ps ks : List Str) (l : List Nat) : Prop := ∀ (s : Shared) (o : Value) (ws : List Value), K.In s.heap → ws.length = ks.length → BindsTo s fd ⟨[o], ks.zip ws⟩ (ps.zip (o :: perm l ws))
theorem kwm_mk {K : Fg} {x qual : Str} {st : Stmt} {f : Addr} {fd : FuncData} {ps ks : List Str} {l : List Nat} (F : Fun K x qual st f fd)
    (h : ∀ (kV doc pm : Value) (an : Option Addr) (cdv ct : Value) (o : Value) (us : List Value), us.length = ks.length → bindArgs (PySem.W.fnOf x qual (defArgs st) (defBody st) (defScope st) .none kV doc pm an cdv ct) ⟨[o], ks.zip us⟩ = pure (ps.zip (o :: perm l us))) : KwM K fd ps ks l := by
  obtain ⟨oc, od, kV, doc, pm, an, cdv, ct, osl, rfl, lk, hcd⟩ := F.ex
  exact fun s o ws _ hl => .of_eq (h kV doc pm an cdv ct o ws hl)
def tMethKw (C : Addr) (m : Str) (sp : Sp) (l : List Nat) (n : Nat) (E : XK) (ta : TE) (tk : TA) : TE := fun σ H Q => ta σ H fun x H1 => ∃ a dx fs, x = .ref a ∧ H1 a = some (.ins C dx fs) ∧ fs.lookup m = none ∧ tk σ H1 fun zs H2 => zs.length = n ∧ sp (x :: perm l zs) H2 Q E
theorem pe_methKw {l : List Nat} {n : Nat} {pl : Sem Bool} (he : PE X o ta) (c : Cls X.K C) (hm : Meth X.K C m f) (F : FnOk X.prog X.w X.K X.mg X.base CX k f fd ps sp) (hr : Room k X.A) (hb : KwM X.K fd ps ks l) (hx : Passes CX X E)
    (hkw : PK X kws tk) (hall : (backToKw pos (keywordEach kws X.env)).all (·.1.isSome) = true := by rfl) (hks : (backToKw pos (keywordEach kws X.env)).filterMap (·.1) = ks := by rfl)
    (hn : n = ks.length := by rfl) (hpl : ((backTo pos (starEach [] X.env)).any (·.1) || (backToKw pos (keywordEach kws X.env)).any (·.1.isNone)) = false := by rfl)
    (ht : eval (.Call (.Attribute o m apos) [] kws pos) X.env = (do
      let ov ← eval o X.env
      standAt apos.atName
      let (f, first) ← holding [ov] (getMethod ov m pl)
      callWith pos f first (backTo pos (starEach [] X.env)) (backToKw pos (keywordEach kws X.env))) := by rfl) :
    PE X (.Call (.Attribute o m apos) [] kws pos) (tMethKw C m sp l n E ta tk) := by
  subst hn
  refine ⟨fun pins s σ H Q I h => ?_⟩
  refine PySem.W.methodCall_KW (pl := pl) (thn (he.run pins s σ H _ I h) fun u s1 ⟨x, H1, I1, rx, a, dx, fs, ex, ea, lk, q⟩ => ?_) ht
  subst ex
  obtain rfl : u = Value.ref a := rx
  refine getmeth_ok I1 ea c hm lk ?_
  refine PySem.W.callWith_KW0 (first := [.ref a]) (h₀ := X.base) I.ok.mod.kin hm.kp hall (thn (hkw.run pos pins s1 σ H1 _ I1 q) fun ws s2 ⟨zs, H2, I2, rz, hl, q2⟩ => ⟨I2.kIn, ?_⟩) hpl
  rw [hks]
  have r2 : Vals (V.ref a :: perm l zs) (Value.ref a :: perm l ws) := .cons rfl (perm_rel l rz)
  refine wpAny_call (codeAny_mono (F.run X.A X.stack s2 H2 ⟨[.ref a], ks.zip ws⟩ (Value.ref a :: perm l ws) (V.ref a :: perm l zs) Q E hr I2.env0 (hb s2 (.ref a) ws I2.kIn (by rw [← rz.length]; exact hl)) r2 q2) fun r s' hq => ?_)
  cases r with
  | error e => exact hx pins σ H2 s2 e s' I2 hq
  | ok fl =>
    cases fl with
    | ret u => exact I2.after hq
    | next => exact False.elim hq
    | brk => exact False.elim hq
    | cont => exact False.elim hq
end
/-- what is asked of a class whose instances have a dict; isinstance of itself -/
structure ClsI (K : Fg) (C : Addr) : Prop where
  cl : Cls K C
  ha : PySem.W.findIn K (.ref C) "__class__" = some (some (.builtin "object.__class__"))
  hn : PySem.W.specialIn K (.builtin "object.__class__") "__get__" = some (some (.builtin "getset_descriptor.__get__"))
  ht : PySem.W.takesIn K (.builtin "object.__class__") = some true
  hm : PySem.W.mroIn K C (.type "object") = some true
  ki : PySem.W.kitOne K (.ref C) (.ref C) = some true
theorem ClsI.ty {K : Fg} {C a dx : Addr} {H : Hp} {fs : List (Str × V)} (c : ClsI K C) (e : H a = some (.ins C dx fs)) : TyX K H (.ref a) (.ref C) := .base (.ins e c.cl c.ha c.hn c.ht c.hm)
/-- isinstance of an own instance -/
theorem rc_isi_own {K : Fg} {C a dx : Addr} {H : Hp} {Q : VK} {fs : List (Str × V)} (c : ClsI K C) (e : H a = some (.ins C dx fs)) (q : Q (.bl true) H) : rIsi K [.ref a, .ref C] H Q := ⟨.ref a, .ref C, .ref C, .ref C, true, rfl, .own C, c.ty e, c.ki, q⟩
/-! ### enumerate(tuple) -/
theorem enumT_new (t : Addr) (items : Array Value) :
    Meets (Builtin.«enumerate.__new__» ⟨[.type "enumerate", .ref t], []⟩) (fun _ R s => s.heap.IsTuple t items ∧
      R (.ok (.ret (.ref (s.heap.objs.size + 1)))) { s with heap := (s.heap.push { cls := .type "tuple_iterator", data := .fields #[.ref t, .int 0 0] }).push { cls := .type "enumerate", data := .fields #[.none, .bool false, .ref s.heap.objs.size, rawInt 0, .none, .none] } }) :=
  .of_wp fun prog w A R s h => by
    obtain ⟨hp, g, d, tk, os⟩ := s
    obtain ⟨h1, h⟩ := h
    have hsub := sub_enumerate
    have hz : (hp.push { cls := .type "tuple_iterator", data := .fields #[.ref t, .int 0 0] }).objs.size = hp.objs.size + 1 := Heap.size_push ..
    have q1 : ∀ {A' : Around} {E : Value → Shared → Prop} {Q : Value → Shared → Prop}, Q (.ref hp.objs.size) ⟨hp.push { cls := .type "tuple_iterator", data := .fields #[.ref t, .int 0 0] }, g, d, tk, os⟩ → wpAny (model prog w) A' (pyIter (.ref t)) Q E ⟨hp, g, d, tk, os⟩ :=
      fun q => wpAny_pyIter_tuple (s := ⟨hp, g, d, tk, os⟩) h1 q
    have h' : ∃ v, Fin.done (Flow.ret (Value.ref (hp.push { cls := .type "tuple_iterator", data := .fields #[.ref t, .int 0 0] }).objs.size)) = Fin.done (Flow.ret v) ∧ R (.ok (.ret v)) ⟨(hp.push { cls := .type "tuple_iterator", data := .fields #[.ref t, .int 0 0] }).push { cls := .type "enumerate", data := .fields #[.none, .bool false, .ref hp.objs.size, rawInt 0, .none, .none] }, g, d, tk, os⟩ := ⟨_, rfl, by rw [hz]; exact h⟩
    wp_walk using q1
    refine wpAny_stack_any fun st => wpAny_pure ?_
    split
    · rename_i c _ _ _ _ _
      cases (c == Value.type "enumerate")
      · wp_walk using q1
        exact h'
      · wp_walk using q1
        exact h'
    · wp_walk using q1
      exact h'
def IteT (K : Fg) (a : Addr) (n : Nat) : It :=
  ⟨fun i H => i < n ∧ ∃ xs : List V, SqT K H a xs ∧ xs.length = n, fun i H v H' => ∃ T x, v = .ref T ∧ H T = none ∧ H' = upd H T (.tup [.int (i : Nat), x]) ∧ ∀ xs, SqT K H a xs → xs[i]? = some x,
    fun i H => n ≤ i ∧ ∃ xs : List V, SqT K H a xs ∧ xs.length = n⟩
def EtTn (a e it : Addr) (n i : Nat) (h : Heap) : Prop := (∃ old, IsEnum h e it ((i : Nat) : Int) old) ∧ h.IsTupleIter it a i ∧ e ≠ it ∧ e ≠ a ∧ i ≤ n
theorem turn_enumT {P : Program} {w : World} {K : Fg} {elts : List Expr} {kk : Nat} {tpos : Pos} (a e it : Addr) (n : Nat) :
    Turn P w K (.Tuple elts kk tpos) (IteT K a n) [e, it] e (EtTn a e it n) where
  mem := by simp
  obj := fun i h st b hb => by
    obtain ⟨⟨old, he⟩, ⟨o, ho, hc, hd⟩, _⟩ := st
    simp only [List.mem_cons, List.not_mem_nil, or_false] at hb
    rcases hb with z | z <;> rw [z]
    · exact ⟨_, he, fun v q => nomatch q⟩
    · exact ⟨o, ho, fun v q => by rw [hd] at q; cases q⟩
  keep := fun i h h' st k => let ⟨⟨old, he⟩, hi, hne⟩ := st; ⟨⟨old, k e (by simp) _ he⟩, hi.at fun o q => k it (by simp) o q, hne⟩
  item := by
    intro X hP hw hK hc i pins s σ H E I hf st hg
    subst hP hw hK
    obtain ⟨⟨old, he⟩, hit, hne, hea, hle⟩ := st
    obtain ⟨hlt, xs, hq, hn⟩ := hg
    obtain ⟨its, rv, p, hz⟩ := I.tuple hq
    have hl : its.length = n := by rw [← rv.length]; exact hn
    have hel : e < s.heap.objs.size := Heap.lt_size he
    have hil : it < s.heap.objs.size := by obtain ⟨_, q, _⟩ := hit; exact Heap.lt_size q
    have hef : e ∉ [it, a] := by simp [hne, hea]
    refine wpAny_pyNext_enum_itemD (Draws.tuple (show X.A.in1.handled = none from I.ok.hd hc) it a (ti_ne hit p) its.toArray) he ⟨hit, p⟩ (by simpa [hl] using hlt) hne hef fun u h' tk hu ho hit' hT hsz hk => ?_
    have hx : xs[i]? = some (xs[i]'(by omega)) := List.getElem?_eq_getElem (by omega)
    obtain ⟨u', e3, ru⟩ := rv.get hx
    have e2 : its[i]? = some u := by simpa using hu
    rw [e2] at e3
    cases e3
    refine ⟨_, rfl, wpAny_letOwnedTupleGo_enum (s := { s with heap := h', toks := tk + 1 }) ho fun h'' he' sb => ?_⟩
    have hT2 : h''.get? s.heap.objs.size = some { cls := .type "tuple", data := .seq #[.int i tk, u] } := (sb.2 _ (Nat.ne_of_gt hel)).trans hT
    have new : ObjOk X.prog X.w (upd H s.heap.objs.size (.tup [.int (i : Nat), xs[i]])) h'' s.heap.objs.size (.tup [.int (i : Nat), xs[i]]) :=
      ⟨by show 2 ≤ sizeLine; decide, [.int i tk, u], .cons ⟨_, rfl⟩ (.cons ru .nil), ⟨_, hT2, rfl, _, rfl⟩⟩
    have I1 : Inv X pins σ (upd H s.heap.objs.size (.tup [.int (i : Nat), xs[i]])) { s with heap := h'', toks := tk + 1 } :=
      I.turnedNew (ch := [e, it]) (fun b ob hb q => (sb.2 b (fun z => hb (by simp [z]))).trans (hk b ob (fun z => hb (by simp [z])) (fun z => hb (by simp [z])) q)) hf (Nat.le_refl _) new
    refine ⟨.ref s.heap.objs.size, _, I1, rfl, ⟨_, xs[i], rfl, I.hok.fresh (Nat.le_refl _), rfl, fun ys hy => by rw [I.tuple_inj hy hq]; exact hx⟩, ⟨⟨u, ?_⟩, hit'.1.at fun o q => (sb.2 it (Ne.symm hne)).trans q, hne, hea, by omega⟩, fun b hb => ?_⟩
    · have e1 : ((i + 1 : Nat) : Int) = (i : Int) + 1 := by omega
      rw [e1]; exact he'
    · have hb' : b < s.heap.objs.size := by
        simp only [List.mem_cons, List.not_mem_nil, or_false] at hb
        rcases hb with z | z <;> rw [z]
        · exact hel
        · exact hil
      rw [upd_ne (Nat.ne_of_lt hb')]
      exact (hf b hb).1
  done := by
    intro X hP hw hK hc i pins s σ H E I hf st hg
    subst hP hw hK
    obtain ⟨⟨old, he⟩, hit, hne, hea, hle⟩ := st
    obtain ⟨hge, xs, hq, hn⟩ := hg
    obtain ⟨its, rv, p, hz⟩ := I.tuple hq
    have hl : its.length = n := by rw [← rv.length]; exact hn
    obtain ⟨f0, f1, f2, f3, f4, f5⟩ := hf it (by simp)
    have hi : i = its.toArray.size := by simp; omega
    subst hi
    exact wpAny_pyNext_enum_endD (Draws.tuple (show X.A.in1.handled = none from I.ok.hd hc) it a (ti_ne hit p) its.toArray) he ⟨hit, p⟩ fun h' eb => ⟨rfl, I.turned (t' := s.toks) (fun b o hb q => eb b o hb q) f0 f1 f3 f4 f5⟩
  self := fun A i s Q E st h => let ⟨⟨_, he⟩, _⟩ := st; wpAny_pyIter_enum he h
def iEnumT (K : Fg) (ta : TA) : TI := fun σ H R => ta σ H fun vs H1 => ∃ a xs, vs = [.ref a] ∧ SqT K H1 a xs ∧ R (IteT K a xs.length) H1
theorem pi_enumT {X : Cx} {e : Expr} {ta : TA} {p pos tpos : Pos} {elts : List Expr} {kk : Nat} (hg : Gl X "enumerate") (hm : X.mg "enumerate" = none) (ha : PA X [e] ta) (hs : starEach [e] X.env = [(false, eval e X.env)] := by rfl) :
    PI X (.Tuple elts kk tpos) (.Call (.Name "enumerate" p) [e] [] pos) (iEnumT X.K ta) := by
  refine ⟨fun pins s σ H R I h => ?_⟩
  refine Call_ (ld_blt I hg hm boot_enumerate (PyProof.Rows.callWith_type1 (thn (ha.run pos pins s σ H _ I h) fun us s1 ⟨vs, H1, I1, r1, q1⟩ => ?_) hs rfl))
  obtain ⟨a, xs, ex, hq, q⟩ := q1
  subst ex
  cases r1 with
  | cons r rr =>
    cases rr
    cases r
    obtain ⟨its, rv, p', hz⟩ := I1.tuple hq
    have la : a < s1.heap.objs.size := by obtain ⟨o, ho, _⟩ := id p'; exact Heap.lt_size ho
    refine callType_new F.called_enumerate (by decide) (F.typeCall_enumerate_1 _) (F.newCall_enumerate_1 _) (fun obj => F.args_object_init_2 obj _) F.entry_enumerate_new (enumT_new a its.toArray) ⟨p', ?_⟩
    have hz : (s1.heap.push { cls := .type "tuple_iterator", data := .fields #[.ref a, .int 0 0] }).objs.size = s1.heap.objs.size + 1 := Heap.size_push ..
    have he : IsEnum ((s1.heap.push { cls := .type "tuple_iterator", data := .fields #[.ref a, .int 0 0] }).push { cls := .type "enumerate", data := .fields #[.none, .bool false, .ref s1.heap.objs.size, rawInt 0, .none, .none] }) (s1.heap.objs.size + 1) s1.heap.objs.size 0 .none := by
      have := Heap.get?_push_size (s1.heap.push { cls := .type "tuple_iterator", data := .fields #[.ref a, .int 0 0] }) (o := { cls := .type "enumerate", data := .fields #[.none, .bool false, .ref s1.heap.objs.size, rawInt 0, .none, .none] }) rfl
      rw [hz] at this; exact this
    refine ⟨⟨_, he, rfl⟩, wpAny_pyIter_enum he ?_⟩
    have hk : ∀ b o, s1.heap.get? b = some o → ((s1.heap.push { cls := .type "tuple_iterator", data := .fields #[.ref a, .int 0 0] }).push { cls := .type "enumerate", data := .fields #[.none, .bool false, .ref s1.heap.objs.size, rawInt 0, .none, .none] }).get? b = some o := fun b o x => Heap.get?_push_of_some _ (Heap.get?_push_of_some _ x)
    have I2 : Inv X pins σ H1 { s1 with heap := (s1.heap.push { cls := .type "tuple_iterator", data := .fields #[.ref a, .int 0 0] }).push { cls := .type "enumerate", data := .fields #[.none, .bool false, .ref s1.heap.objs.size, rawInt 0, .none, .none] } } := I1.kept (t' := s1.toks) hk
    refine ⟨s1.heap.objs.size + 1, [s1.heap.objs.size + 1, s1.heap.objs.size], _, _, H1, rfl, I2, turn_enumT a (s1.heap.objs.size + 1) s1.heap.objs.size xs.length, ⟨⟨.none, he⟩, ⟨_, Heap.get?_push_of_some _ (Heap.get?_push_size _ rfl), rfl, rfl⟩, Nat.succ_ne_self _, Nat.ne_of_gt (Nat.lt_succ_of_lt la), Nat.zero_le _⟩, fun b hb => ?_, q⟩
    have hle : s1.heap.objs.size ≤ b := by
      simp only [List.mem_cons, List.not_mem_nil, or_false] at hb
      rcases hb with z | z <;> rw [z]
      · exact Nat.le_succ _
      · exact Nat.le_refl _
    exact I1.fpOk hle (I1.hok.fresh hle)
open PySem.W (Tup)
theorem ei_enumT {α : Type} [Py α] {K : Fg} {σ : SS} {W : Wd} {te : TE} {ε : Ef} {xs : Tup α} (h : EvR ε K te σ W xs) : EvJ ε K (iEnumT K (tCons te tNil)) σ W ((rng 0 xs.items.length).zip xs.items) := fun W1 g1 R k => h W1 g1 _ fun v W2 g2 ⟨a, vs, e, s, r⟩ => by
  have hl := Reps.len r
  refine ⟨a, vs, by rw [e], SqT.of (W2.sub.et s), k (IteT K a vs.length) W2 g2 ⟨fun i W' o hi => ?_, fun i W' v H'' o hi ⟨T, x, e1, hT, e2, e3⟩ => ?_, fun i W' o hi => ?_⟩⟩
  · rw [List.length_zip, rng_len] at hi
    exact ⟨by omega, vs, SqT.of (W'.sub.et (o.b _ _ s)), rfl⟩
  · rw [List.length_zip, rng_len] at hi
    obtain ⟨y, h1, h2⟩ := Reps.get r (e3 vs (SqT.of (W'.sub.et (o.b _ _ s))))
    refine ⟨((i : Int), y), W'.add T _, e2.symm, W'.grow_add hT, ?_, T, .int (i : Nat), x, e1, upd_same, rfl, rep_g (W'.grow_add hT) (rex o.b h2)⟩
    rw [List.getElem?_zip_eq_some]
    exact ⟨by rw [rng_get (by omega)]; simp, h1⟩
  · rw [List.length_zip, rng_len] at hi
    exact ⟨by omega, vs, SqT.of (W'.sub.et (o.b _ _ s)), rfl⟩
/-! ### chains of comparisons -/
def tTest3 (r1 r2 r3 : R2) (ta tb tc td : TE) : TT := fun σ H Q => ta σ H fun x H1 => tb σ H1 fun y H2 => r1 x y H2 fun p H3 => ∃ k, p = .bl k ∧
  (if k = true then tc σ H3 fun z H4 => r2 y z H4 fun p H5 => ∃ k, p = .bl k ∧ (if k = true then td σ H5 fun u H6 => r3 z u H6 fun p H7 => ∃ k, p = .bl k ∧ Q k H7 else Q false H5) else Q false H3)
theorem pt_chain3 {X : Cx} {a b c d : Expr} {pos : Pos} {o1 o2 o3 : CmpOp} {r1 r2 r3 : R2} {ta tb tc td : TE} (h1 : OpR X (compareOp o1) r1) (h2 : OpR X (compareOp o2) r2) (h3 : OpR X (compareOp o3) r3) (ha : PE X a ta) (hb : PE X b tb) (hc : PE X c tc) (hd : PE X d td)
    (hm : lastMarks [o1, o2, o3] [b, c, d] = false := by with_unfolding_all rfl) : PT X (.Compare a [o1, o2, o3] [b, c, d] pos) (tTest3 r1 r2 r3 ta tb tc td) := by
  refine ⟨fun pins s σ H Q I h => ?_⟩
  refine isTrue_chain (thn (ha.run pins s σ H _ I h) fun v s1 ⟨x, H1, I1, g1, q1⟩ => test_link (thn (hb.run pins s1 σ H1 _ I1 q1) fun u s2 ⟨y, H2, I2, g2, q2⟩ =>
    thn (h1 pins s2 σ H2 x y v u _ I2 g1 g2 q2) fun d s3 ⟨z, H3, I3, g3, k, e, q3⟩ => ?_)) hm
  subst e
  cases g3
  refine wpAny_truthy_bool ?_
  cases k with
  | false => exact ite_ff ⟨H3, I3, q3⟩
  | true =>
    refine ite_tt (test_link (thn (hc.run pins s3 σ H3 _ I3 q3) fun w' s4 ⟨z', H4, I4, g4, q4⟩ => thn (h2 pins s4 σ H4 y z' u w' _ I4 g2 g4 q4) fun d' s5 ⟨z2, H5, I5, g5, k2, e2, q5⟩ => ?_))
    subst e2
    cases g5
    refine wpAny_truthy_bool ?_
    cases k2 with
    | false => exact ite_ff ⟨H5, I5, q5⟩
    | true =>
      refine ite_tt (test_last (thn (hd.run pins s5 σ H5 _ I5 q5) fun w6 s6 ⟨z6, H6, I6, g6, q6⟩ => thn (h3 pins s6 σ H6 z' z6 w' w6 _ I6 g4 g6 q6) fun d7 s7 ⟨z7, H7, I7, g7, k3, e3, q7⟩ => ?_))
      subst e3
      cases g7
      exact wpAny_truthy_bool ⟨H7, I7, q7⟩
section
variable {α β γ δ : Type} [Py α] [Py β] [Py γ] [Py δ] {K : Fg} {σ : SS} {W : Wd} {ta tb tc td : TE} {r1 r2 r3 : R2} {ε : Ef} {x : α} {y : β} {z : γ} {u : δ} {b1 b2 b3 : Bool}
/-- a op b op c as a value -/
theorem ev_chain (ha : EvR ε K ta σ W x) (hb : EvR ε K tb σ W y) (hc : EvR ε K tc σ W z) (h1 : RO K r1 x y b1) (h2 : RO K r2 y z b2) : EvR ε K (tChain r1 r2 ta tb tc) σ W (b1 && b2) := fun W1 g1 Q k =>
  ha W1 g1 _ fun vx W2 g2 rx => hb W2 (g1.trans g2) _ fun vy W3 g3 ry => h1 vx vy W3 (rep_s g3 rx) ry _ fun w W4 g4 rw => ⟨b1, rw, by
    have g14 := (g1.trans g2).trans (g3.and g4)
    cases b1 with
    | false => rw [if_neg Bool.false_ne_true]; exact k _ W4 ((g2.trans g3).and g4) rfl
    | true =>
      rw [if_pos rfl]
      exact hc W4 g14 _ fun vz W5 g5 rz => h2 vy vz W5 (rep_s g5 (rep_g g4 ry)) rz _ fun w' W6 g6 rw' => k w' W6 (((g2.trans (g3.and g4)).trans g5).and g6) rw'⟩
theorem et_chain3 (ha : EvR ε K ta σ W x) (hb : EvR ε K tb σ W y) (hc : EvR ε K tc σ W z) (hd : EvR ε K td σ W u) (h1 : RO K r1 x y b1) (h2 : RO K r2 y z b2) (h3 : RO K r3 z u b3) : EvT ε (tTest3 r1 r2 r3 ta tb tc td) σ W (b1 && (b2 && b3)) := fun W1 g1 Q k =>
  ha W1 g1 _ fun vx W2 g2 rx => hb W2 (g1.trans g2) _ fun vy W3 g3 ry => h1 vx vy W3 (rep_s g3 rx) ry _ fun w W4 g4 rw => ⟨b1, rw, by
    have g14 := (g1.trans g2).trans (g3.and g4)
    cases b1 with
    | false => rw [if_neg Bool.false_ne_true]; exact k W4 ((g2.trans g3).and g4)
    | true =>
      rw [if_pos rfl]
      exact hc W4 g14 _ fun vz W5 g5 rz => h2 vy vz W5 (rep_s g5 (rep_g g4 ry)) rz _ fun w' W6 g6 rw' => ⟨b2, rw', by
        have g16 := g14.trans (g5.and g6)
        cases b2 with
        | false => rw [if_neg Bool.false_ne_true]; exact k W6 (((g2.trans (g3.and g4)).trans g5).and g6)
        | true =>
          rw [if_pos rfl]
          exact hd W6 g16 _ fun vu W7 g7 ru => h3 vz vu W7 (rep_s g7 (rep_g g6 rz)) ru _ fun w8 W8 g8 rw8 => ⟨b3, rw8, k W8 ((((g2.trans (g3.and g4)).trans (g5.and g6)).trans g7).and g8)⟩⟩⟩
end
abbrev oIsB : R2 := fun x y H Q => ∃ a b, x = .bl a ∧ y = .bl b ∧ Q (.bl (decide (a = b))) H
abbrev oNotIsB : R2 := fun x y H Q => ∃ a b, x = .bl a ∧ y = .bl b ∧ Q (.bl (!decide (a = b))) H
theorem ro_isB {K : Fg} {a b : Bool} : RO K oIsB a b (decide (a = b)) := ro_val fun v u _ rv ru Q k => ⟨a, b, rv, ru, k _ rfl⟩
theorem ro_notIsB {K : Fg} {a b : Bool} : RO K oNotIsB a b (!decide (a = b)) := ro_val fun v u _ rv ru Q k => ⟨a, b, rv, ru, k _ rfl⟩
end B
/-! B: fields of own instances; max of a list; slices by places -/
namespace B
open PySem L2
open PySem.W (Tup T3 T4 Datum DatumOrd)
open Evl (Ex)
section
variable {α : Type} [Py α] {K : Fg} {C x : Addr} {W W' : Wd} {σ : SS} {i : Nat} {f : Str} {v : V} {y : α} {fs : List (Str × V)} {dx : Addr} {tv : TE} {ε : Ef}
/-- o.f -/
theorem ev_fld (c : Cls K C) (n : NoAttr K C f) (hd : σ[i]? = some (some (.ref x))) (hb : W.B x = none) (hh : W.H x = some (.ins C dx fs)) (hS : x ∉ ε.S) (hl : fs.lookup f = some v) (r : rep K W.B v y) : EvR ε K (tFld K (tVar i) f) σ W y := fun W1 g1 Q k => by
  have m := g1.md.mut hS hh hb
  exact ⟨_, hd, x, C, dx, fs, v, rfl, m.1, c, n, hl, k v W1 g1.rf (rep_s g1 r)⟩
/-- o.f = v -/
theorem s_fld {D : Ends} (c : Cls K C) (n : NoAttr K C f) (hd : σ[i]? = some (some (.ref x))) (hb : W.B x = none) (hh : W.H x = some (.ins C dx fs)) (hl : fs.length < 1000) (hv : EvR pur K tv σ W y)
    (q : ∀ v W', Md [x] W W' → On W W' → W'.B x = none → W'.H x = some (.ins C dx (putF f v fs)) → rep K W'.B v y → D.nx σ W'.H) : sFld K (tVar i) tv f D σ W.H := hv W (.start trivial) _ fun v W1 g1 rv => by
  have m := g1.pure.mut (by simp) hh hb
  exact ⟨_, hd, x, C, dx, fs, rfl, m.1, c, n, hl, q v (W1.put x _ m.2) ((Grow.s g1.pure).trans (md_put m.2)) (g1.on.trans (md_put m.2).on) m.2 upd_same rv⟩
theorem q_fld {D : Ends} {tz : TS} (c : Cls K C) (n : NoAttr K C f) (hd : σ[i]? = some (some (.ref x))) (hb : W.B x = none) (hh : W.H x = some (.ins C dx fs)) (hl : fs.length < 1000) (hv : EvR pur K tv σ W y)
    (q : ∀ v W', Md [x] W W' → On W W' → W'.B x = none → W'.H x = some (.ins C dx (putF f v fs)) → rep K W'.B v y → tz D σ W'.H) : tSeq (sFld K (tVar i) tv f) tz D σ W.H := s_fld (D := { D with nx := tz D }) c n hd hb hh hl hv q
/-- isinstance(o, C) of an instance of C -/
theorem ev_isOwn (c : ClsI K C) (hd : σ[i]? = some (some (.ref x))) (hb : W.B x = none) (hh : W.H x = some (.ins C dx fs)) (hS : x ∉ ε.S) : EvR ε K (tCB (rIsi K) (tCons (tVar i) (tCons (tC (.ref C)) tNil))) σ W true := fun W1 g1 Q k => by
  have m := g1.md.mut hS hh hb
  refine ⟨_, hd, ?_⟩
  show rIsi K [.ref x, .ref C] W1.H Q
  exact rc_isi_own c m.1 (k _ W1 g1.rf rfl)
/-- max(xs) -/
theorem rc_max {xs : List Int} {m : Int} (h1 : m ∈ xs) (h2 : ∀ y ∈ xs, y ≤ m) : RC1 K (rMax K) xs m := fun v W1 ⟨a, vs, e, s, r⟩ Q k => ⟨a, xs, by rw [e], by rw [← reps_int r]; exact SqL.of (W1.sub.el s), List.length_pos_of_mem h1, fun m' h3 h4 => by
  have : m' = m := Int.le_antisymm (h2 m' h3) (h4 m h1)
  rw [this]
  exact k _ W1 (.refl _ _) rfl⟩
end
theorem cut_to {α : Type} {xs : List α} {n : Nat} (h : n ≤ xs.length) : cutL xs none (some (n : Int)) = xs.take n := by
  unfold cutL
  rw [HT.sIx_none, HT.sIx_nat, List.drop_zero, Nat.sub_zero, Nat.min_eq_left h]
theorem cut_from {α : Type} {xs : List α} {n : Nat} (h : n ≤ xs.length) : cutL xs (some (n : Int)) none = xs.drop n := by
  unfold cutL
  rw [HT.sIx_none, HT.sIx_nat, Nat.min_eq_left h, List.take_of_length_le]
  rw [List.length_drop]
  exact Nat.le_refl _
theorem cut_toN {α : Type} {xs : List α} {n : Nat} : cutL xs none (some (n : Int)) = xs.take n := by
  unfold cutL
  rw [HT.sIx_none, HT.sIx_nat, List.drop_zero, Nat.sub_zero]
  by_cases h : n ≤ xs.length
  · rw [Nat.min_eq_left h]
  · rw [Nat.min_eq_right (by omega), List.take_of_length_le (Nat.le_refl _), List.take_of_length_le (by omega)]
end B
/-! B: more rules: lists that change, dict comprehensions, calls of three and four, targets of three and four names, list(range) -/
namespace B
open PySem L2
open PySem.W (Tup T3 T4 Datum DatumOrd)
open Evl (Ex)
section
variable {α β γ δ : Type} [Py α] [Py β] [Py γ] [Py δ] {K : Fg} {W W' : Wd} {σ : SS} {ε : Ef} {te ta tb tc td : TE} {i : Nat} {d : Addr} {S : List Addr}
theorem ty_tup {xs : Tup α} (W1 : Wd) (v : V) (h : rep K W1.B v xs) : TyX K W1.H v (.type "tuple") := by
  obtain ⟨a, vs, rfl, h1, _⟩ := h
  exact .base (.tup (W1.sub.et h1))
theorem ty_lst {xs : List α} (W1 : Wd) (v : V) (h : rep K W1.B v xs) : TyX K W1.H v (.type "list") := by
  obtain ⟨a, vs, rfl, h1, _⟩ := h
  exact .base (.lst (W1.sub.el h1))
/-- isinstance(x, (c1, c2)), built-in classes -/
theorem ev_isi2 {x : α} {a c1 c2 : String} {b1 b2 : Bool} (h : EvR ε K te σ W x) (ht : ∀ (W1 : Wd) v, rep K W1.B v x → TyX K W1.H v (.type a)) (h1 : kitB a c1 = some b1) (h2 : kitB a c2 = some b2) : EvR ε K (tCB (rIsiT K) (tCons te (tCons (tTup (tCons (tC (.ty c1)) (tCons (tC (.ty c2)) tNil))) tNil))) σ W (b1 || b2) := fun W1 g1 Q k =>
  h W1 g1 _ fun v W2 g2 r => ⟨Evl.sz_of (by show 2 ≤ 100000; decide), fun p hp => ⟨v, p, [.ty c1, .ty c2], .type a, [.type c1, .type c2], b1 || b2, rfl, upd_same, .cons (.ty c1) (.cons (.ty c2) .nil), ht (W2.add p (.tup [.ty c1, .ty c2])) v (rep_g (W2.grow_add hp) r), by
    refine kitAny_cons (kit_ty h1) (fun e => ?_) (fun e => by rw [e]; rfl)
    rw [e, Bool.false_or]
    exact kitAny_cons (kit_ty h2) (fun e2 => by rw [e2]; exact kitAny_nil) (fun e2 => e2), k _ (W2.add p _) (g2.and (W2.grow_add hp)) rfl⟩⟩
/-! ### calls of three, four -/
theorem ev_callP3 {P1 P2 P3 R : V → Wd → Prop} {sp : Sp} {E : XK} (ha : EvP ε ta σ W P1) (hb : EvP ε tb σ W P2) (hc : EvP ε tc σ W P3) (m1 : ∀ v W W', Stp ε W W' → P1 v W → P1 v W') (m2 : ∀ v W W', Stp ε W W' → P2 v W → P2 v W')
    (hs : ∀ v1 v2 v3 W1, Stp ε W W1 → P1 v1 W1 → P2 v2 W1 → P3 v3 W1 → ∀ Q : VK, (∀ u W2, Stp ε W1 W2 → R u W2 → Q u W2.H) → sp [v1, v2, v3] W1.H Q E) : EvP ε (tCall sp [] E (tCons ta (tCons tb (tCons tc tNil)))) σ W R := fun W1 g1 Q k =>
  ha W1 g1 _ fun v1 W2 g2 p1 => hb W2 (g1.trans g2) _ fun v2 W3 g3 p2 => hc W3 ((g1.trans g2).trans g3) _ fun v3 W4 g4 p3 => hs v1 v2 v3 W4 (((g1.trans g2).trans g3).trans g4) (m1 _ _ _ (g3.trans g4) p1) (m2 _ _ _ g4 p2) p3 Q fun u W5 g5 r => k u W5 (((g2.trans g3).trans g4).trans g5) r
theorem ev_callP4 {P1 P2 P3 P4 R : V → Wd → Prop} {sp : Sp} {E : XK} (ha : EvP ε ta σ W P1) (hb : EvP ε tb σ W P2) (hc : EvP ε tc σ W P3) (hd : EvP ε td σ W P4) (m1 : ∀ v W W', Stp ε W W' → P1 v W → P1 v W') (m2 : ∀ v W W', Stp ε W W' → P2 v W → P2 v W') (m3 : ∀ v W W', Stp ε W W' → P3 v W → P3 v W')
    (hs : ∀ v1 v2 v3 v4 W1, Stp ε W W1 → P1 v1 W1 → P2 v2 W1 → P3 v3 W1 → P4 v4 W1 → ∀ Q : VK, (∀ u W2, Stp ε W1 W2 → R u W2 → Q u W2.H) → sp [v1, v2, v3, v4] W1.H Q E) : EvP ε (tCall sp [] E (tCons ta (tCons tb (tCons tc (tCons td tNil))))) σ W R := fun W1 g1 Q k =>
  ha W1 g1 _ fun v1 W2 g2 p1 => hb W2 (g1.trans g2) _ fun v2 W3 g3 p2 => hc W3 ((g1.trans g2).trans g3) _ fun v3 W4 g4 p3 => hd W4 (((g1.trans g2).trans g3).trans g4) _ fun v4 W5 g5 p4 =>
    hs v1 v2 v3 v4 W5 ((((g1.trans g2).trans g3).trans g4).trans g5) (m1 _ _ _ ((g3.trans g4).trans g5) p1) (m2 _ _ _ (g4.trans g5) p2) (m3 _ _ _ g5 p3) p4 Q fun u W6 g6 r => k u W6 ((((g2.trans g3).trans g4).trans g5).trans g6) r
/-- a variable that holds what P tells -/
theorem ep_var {P : V → Wd → Prop} {v : V} (h : σ[i]? = some (some v)) (p : P v W) (m : ∀ W', Stp ε W W' → P v W') : EvP ε (tVar i) σ W P := fun W1 g1 Q k => ⟨v, h, k v W1 g1.rf (m W1 g1)⟩
/-- a method called -/
theorem ev_meth0 {R : V → Wd → Prop} {C : Addr} {m : Str} {sp : Sp} {E : XK} {x : Addr} {dx : Addr} {fs : List (Str × V)} (hd : σ[i]? = some (some (.ref x))) (hb : W.B x = none) (hh : W.H x = some (.ins C dx fs)) (hS : x ∉ ε.S) (hl : fs.lookup m = none)
    (hs : ∀ W1, Stp ε W W1 → ∀ Q : VK, (∀ u W2, Stp ε W1 W2 → R u W2 → Q u W2.H) → sp [.ref x] W1.H Q E) : EvP ε (tMeth C m sp [] E (tVar i) tNil) σ W R := fun W1 g1 Q k => by
  have mm := g1.md.mut hS hh hb
  exact ⟨_, hd, x, dx, fs, rfl, mm.1, hl, hs W1 g1 Q k⟩
/-! ### targets -/
theorem gt_t3 {j1 j2 j3 : Nat} {p : T3 α β γ} {v : V} {Q : SS → Hp → Prop} (r : rep K W.B v p) (k : ∀ v1 v2 v3, rep K W.B v1 p.a → rep K W.B v2 p.b → rep K W.B v3 p.c → Q (((σ.set j1 (some v1)).set j2 (some v2)).set j3 (some v3)) W.H) : gTup K 3 (gCons (gName j1) (gCons (gName j2) (gCons (gName j3) gNil))) v σ W.H Q := by
  obtain ⟨a, x, y, z, e, h, r1, r2, r3⟩ := r
  exact ⟨a, [x, y, z], e, SqT.of (W.sub.et h), rfl, x, [y, z], rfl, y, [z], rfl, z, [], rfl, rfl, k x y z r1 r2 r3⟩
theorem gt_t4 {j1 j2 j3 j4 : Nat} {p : T4 α β γ δ} {v : V} {Q : SS → Hp → Prop} (r : rep K W.B v p) (k : ∀ v1 v2 v3 v4, rep K W.B v1 p.a → rep K W.B v2 p.b → rep K W.B v3 p.c → rep K W.B v4 p.d → Q ((((σ.set j1 (some v1)).set j2 (some v2)).set j3 (some v3)).set j4 (some v4)) W.H) : gTup K 4 (gCons (gName j1) (gCons (gName j2) (gCons (gName j3) (gCons (gName j4) gNil)))) v σ W.H Q := by
  obtain ⟨a, x, y, z, w, e, h, r1, r2, r3, r4⟩ := r
  exact ⟨a, [x, y, z, w], e, SqT.of (W.sub.et h), rfl, x, [y, z, w], rfl, y, [z, w], rfl, z, [w], rfl, w, [], rfl, rfl, k x y z w r1 r2 r3 r4⟩
theorem gt_p2 {j1 j2 : Nat} {p : α × β} {v : V} {Q : SS → Hp → Prop} (r : rep K W.B v p) (k : ∀ v1 v2, rep K W.B v1 p.1 → rep K W.B v2 p.2 → Q ((σ.set j1 (some v1)).set j2 (some v2)) W.H) : gPair K j1 j2 v σ W.H Q := by
  obtain ⟨a, x, y, e, h, r1, r2⟩ := r
  exact ⟨a, [x, y], e, SqT.of (W.sub.et h), rfl, x, [y], rfl, y, [], rfl, rfl, k x y r1 r2⟩
theorem gt_u2 {j1 j2 : Nat} {x y : α} {v : V} {Q : SS → Hp → Prop} (r : rep K W.B v [x, y]) (k : ∀ v1 v2, rep K W.B v1 x → rep K W.B v2 y → Q ((σ.set j1 (some v1)).set j2 (some v2)) W.H) : gUnl K 2 (gCons (gName j1) (gCons (gName j2) gNil)) v σ W.H Q := by
  obtain ⟨a, vs, e, h, r⟩ := r
  cases r with
  | cons r1 r =>
    cases r with
    | cons r2 r =>
      cases r
      exact ⟨a, _, e, SqL.of (W.sub.el h), rfl, _, _, rfl, _, _, rfl, rfl, k _ _ r1 r2⟩
theorem ev_t4 {x : α} {y : β} {z : γ} {w : δ} (ha : EvR ε K ta σ W x) (hb : EvR ε K tb σ W y) (hc : EvR ε K tc σ W z) (hd : EvR ε K td σ W w) : EvR ε K (tTup (tCons ta (tCons tb (tCons tc (tCons td tNil))))) σ W (T4.mk x y z w) := fun W1 g1 Q k =>
  ha W1 g1 _ fun a W2 g2 ra => hb W2 (g1.trans g2) _ fun b W3 g3 rb => hc W3 ((g1.trans g2).trans g3) _ fun c W4 g4 rc => hd W4 (((g1.trans g2).trans g3).trans g4) _ fun e W5 g5 re => ⟨Evl.sz_of (by show 4 ≤ 100000; decide), fun p hp =>
    k _ (W5.add p (.tup [a, b, c, e])) ((((g2.trans g3).trans g4).trans g5).and (W5.grow_add hp)) ⟨p, a, b, c, e, rfl, upd_same, rep_g (W5.grow_add hp) (rep_s g5 (rep_s g4 (rep_s g3 ra))), rep_g (W5.grow_add hp) (rep_s g5 (rep_s g4 rb)), rep_g (W5.grow_add hp) (rep_s g5 rc), rep_g (W5.grow_add hp) re⟩⟩
/-- an item of a tuple of four -/
theorem ro_ixQ {p : T4 α β γ δ} : RO K (rIxT K) p (0 : Int) p.a ∧ RO K (rIxT K) p (1 : Int) p.b ∧ RO K (rIxT K) p (2 : Int) p.c ∧ RO K (rIxT K) p (3 : Int) p.d := by
  refine ⟨ro_val fun v u W1 rv ru Q k => ?_, ro_val fun v u W1 rv ru Q k => ?_, ro_val fun v u W1 rv ru Q k => ?_, ro_val fun v u W1 rv ru Q k => ?_⟩ <;>
  · obtain ⟨a, x, y, z, w, e, h, r1, r2, r3, r4⟩ := rv
    exact ⟨a, [x, y, z, w], _, _, e, ru, SqT.of (W1.sub.et h), rfl, k _ (by first | exact r1 | exact r2 | exact r3 | exact r4)⟩
/-- list(range(a, b)) -/
theorem ev_lstRg {a b : Int} (ha : EvR ε K ta σ W a) (hb : EvR ε K tb σ W b) (h : RgOk a b) : EvR ε K (tLstRg (tRg2 ta tb)) σ W (rng a (b - a).toNat) := fun W1 g1 Q k =>
  ha W1 g1 _ fun v W2 g2 ra => hb W2 (g1.trans g2) _ fun u W3 g3 rb => ⟨a, b, ra, rb, h, fun p hp => k _ (W3.add p _) ((g2.trans g3).and (W3.grow_add hp)) ⟨p, _, rfl, upd_same, by
    have : rgV a b = (rng a (b - a).toNat).map V.int := by
      unfold rgV rng
      rw [List.map_map]
      rfl
    rw [this]
    exact int_reps _⟩⟩
/-! ### lists that change -/
structure LMut (K : Fg) (W : Wd) (d : Addr) (xs : List α) : Prop where
  b : W.B d = none
  ex : ∃ vs, W.H d = some (.lst vs) ∧ Reps K W.B vs xs
theorem LMut.g {xs : List α} (m : LMut K W d xs) (g : Md S W W') (h : d ∉ S) : LMut K W' d xs := by
  obtain ⟨vs, e, r⟩ := m.ex
  have := g.mut h e m.b
  exact ⟨this.2, vs, this.1, Reps.mono (exExt g.b) r⟩
theorem LMut.gr {xs : List α} (m : LMut K W d xs) (g : Grow W W') : LMut K W' d xs := m.g g (by simp)
theorem LMut.nt {xs : List α} (m : LMut K W d xs) : Nt W.H d := by
  obtain ⟨vs, e, _⟩ := m.ex
  exact .l e
/-- xs.append(y) -/
theorem s_append {D : Ends} {xs : List α} {y : α} (hd : σ[i]? = some (some (.ref d))) (m : LMut K W d xs) (h : EvR pur K te σ W y) (hl : xs.length < 100000) (q : ∀ W', Md [d] W W' → On W W' → LMut K W' d (xs ++ [y]) → D.nx σ W'.H) : tDrop (tBM K "list" rAppend (tVar i) (tCons te tNil)) D σ W.H := by
  obtain ⟨vs, e, r⟩ := m.ex
  refine ⟨_, hd, .inl ⟨rfl, vs, SqL.of e⟩, h W (.start trivial) _ fun v W1 g1 rv => ?_⟩
  obtain ⟨vs1, e1, r1⟩ := (m.gr g1.pure).ex
  have b1 := (m.gr g1.pure).b
  exact ⟨d, vs1, v, rfl, rfl, e1, by rw [Reps.len r1]; exact Evl.sz_lt hl, q (W1.put d _ b1) ((Grow.s g1.pure).trans (md_put b1)) (g1.on.trans (md_put b1).on) ⟨b1, _, upd_same, Reps.snoc r1 rv⟩⟩
theorem q_append {D : Ends} {tz : TS} {xs : List α} {y : α} (hd : σ[i]? = some (some (.ref d))) (m : LMut K W d xs) (h : EvR pur K te σ W y) (hl : xs.length < 100000) (q : ∀ W', Md [d] W W' → On W W' → LMut K W' d (xs ++ [y]) → tz D σ W'.H) : tSeq (tDrop (tBM K "list" rAppend (tVar i) (tCons te tNil))) tz D σ W.H := s_append (D := { D with nx := tz D }) hd m h hl q
/-- it shall stay -/
theorem LMut.fix {xs : List α} (m : LMut K W d xs) : ∃ o, ∃ h : W.H d = some o, rep K (W.fix d o h).B (.ref d) xs ∧ Ex W.B (W.fix d o h).B ∧ ∀ W0 S, Md S W0 W → W0.H d = none → Md S W0 (W.fix d o h) := by
  obtain ⟨vs, e, r⟩ := m.ex
  exact ⟨_, e, ⟨d, vs, rfl, upd_same, Reps.mono (exExt (ex_fix e m.b)) r⟩, ex_fix e m.b, fun W0 S g f => md_fix g e m.b f⟩
/-- a list that changes, read -/
theorem LMut.rv {xs : List α} (m : LMut K W d xs) : ∃ vs, W.H d = some (.lst vs) ∧ Reps K W.B vs xs := m.ex
end
/-! ### {k: v for x in ..} -/
section
variable {α β κ : Type} [Py α] [Py β] [DecidableEq κ] [PyKey κ] {K : Fg} {W : Wd} {σ : SS} {ε : Ef} {tk tv : TE} {wi : TI}
theorem ed_dcN {j : Nat} {xs : List α} {f : α → κ} {g : α → β} (hi : EvI ε K wi σ W xs) (hk : ∀ x v W', x ∈ xs → Stp ε W W' → rep K W'.B v x → EvP ε tk ((wipe σ [j]).set j (some v)) W' (fun u _ => u = kV (PyKey.key (f x)))) (he : ∀ x v W', x ∈ xs → Stp ε W W' → rep K W'.B v x → EvR ε K tv ((wipe σ [j]).set j (some v)) W' (g x)) (hl : xs.length < 100000) :
    ∀ W1, Stp ε W W1 → ∀ Q : VK, (∀ p W2, Stp ε W1 W2 → W1.H p = none → DMut K W2 p (xs.foldl (fun kv x => kput kv (f x) (g x)) []) → Q (.ref p) W2.H) → tDc wi (gName j) tYes tk tv [j] σ W1.H Q := fun W1 g1 Q k =>
  hi W1 g1 _ fun J S W2 g2 s2 sg src D hD => by
    have DS : D ∉ ε.S := Ef.off g2.i hD
    refine ⟨fun i m H => m = xs.length - i ∧ i ≤ xs.length ∧ ∃ Wi, Wi.H = H ∧ Stp ε W2 Wi ∧ DMut K Wi D ((xs.take i).foldl (fun kv x => kput kv (f x) (g x)) []) ∧ ((xs.take i).foldl (fun kv x => kput kv (f x) (g x)) []).length ≤ i, ⟨xs.length, rfl, Nat.zero_le _, W2.put D (.dK []) (W2.free hD), rfl, ⟨md_mut (.refl _ _) (W2.free hD) hD, i_put DS g2.i _⟩, DMut.new W2 hD, Nat.le_refl _⟩, ?_⟩
    rintro i m H ⟨rfl, hle, Wi, rfl, gi, dm, dl⟩
    have si : S Wi := sg _ _ s2 gi
    by_cases hlt : i < xs.length
    · refine .inr ⟨src.go i Wi si hlt, fun H => i + 1 ≤ xs.length ∧ ∃ Wi, Wi.H = H ∧ Stp ε W2 Wi ∧ DMut K Wi D ((xs.take (i + 1)).foldl (fun kv x => kput kv (f x) (g x)) []) ∧ ((xs.take (i + 1)).foldl (fun kv x => kput kv (f x) (g x)) []).length ≤ i + 1, fun H' h' => ⟨_, by omega, rfl, h'⟩, fun v H'' hy => ?_⟩
      obtain ⟨x, W3, rfl, g3', hx, r⟩ := src.yld i Wi v H'' si hlt hy
      have g3 : Stp ε Wi W3 := gi.rf.and g3'
      have hm := List.mem_of_getElem? hx
      have G3 := ((g1.trans g2).trans gi).trans g3
      refine ⟨wipe1, et_yes (ε := ε) W3 g3.rf _ fun W4 g4 => ?_⟩
      rw [if_pos rfl]
      have G4 := G3.trans g4
      refine hk x v W4 hm G4 (rep_s g4 r) W4 g4.rf _ fun u W5 g5 eu => he x v W5 hm (G4.trans g5) (rep_s g5 (rep_s g4 r)) W5 g5.rf _ fun w W6 g6 rw' => ?_
      have G6 : Stp ε Wi W6 := ((g3.trans g4).trans g5).trans g6
      obtain ⟨ks, e6, r6⟩ := (dm.s G6 DS).ex
      have b6 := (dm.s G6 DS).b
      have tk' : xs.take (i + 1) = xs.take i ++ [x] := by rw [List.take_add_one, hx]; rfl
      have ef : (xs.take (i + 1)).foldl (fun kv x => kput kv (f x) (g x)) [] = kput ((xs.take i).foldl (fun kv x => kput kv (f x) (g x)) []) (f x) (g x) := by rw [tk', List.foldl_append]; rfl
      refine ⟨ks, PyKey.key (f x), eu, e6, by rw [KReps.len r6]; exact Evl.sz_lt (by omega), hlt, W6.put D _ b6, rfl, ⟨md_mut (gi.trans G6).md b6 hD, i_put DS G6.i _⟩, ⟨b6, _, upd_same, ?_⟩, ?_⟩
      · rw [ef]
        exact KReps.put r6 (f x) rw'
      · rw [ef]
        have := kput_len ((xs.take i).foldl (fun kv x => kput kv (f x) (g x)) []) (f x) (g x)
        omega
    · have e : i = xs.length := by omega
      subst e
      rw [List.take_length] at dm
      exact .inl ⟨src.stop _ Wi si (Nat.le_refl _), k D Wi (g2.trans gi) (by
        cases e : W1.H D with
        | none => rfl
        | some o => exact absurd hD (g2.md.d D (by rw [e]; exact fun z => by cases z))) dm⟩
end
/-- xs = xs + ys, xs a list that changes: a new one that may change -/
theorem s_catM {α : Type} [Py α] {K : Fg} {σ : SS} {W : Wd} {D : Ends} {te : TE} {i : Nat} {d : Addr} {xs ys : List α} (hd : σ[i]? = some (some (.ref d))) (m : LMut K W d xs) (h : EvR pur K te σ W ys) (hl : xs.length + ys.length ≤ 100000)
    (q : ∀ d' W', Grow W W' → W.H d' = none → LMut K W' d' (xs ++ ys) → D.nx (σ.set i (some (.ref d'))) W'.H) : tAsg (tOp rCat (tVar i) te) (gName i) D σ W.H := ⟨_, hd, h W (.start trivial) _ fun v W1 g1 ⟨b, us, e, s, r⟩ => by
  obtain ⟨vs, e1, r1⟩ := (m.gr g1.pure).ex
  refine ⟨d, b, vs, us, rfl, e, e1, W1.sub.el s, Evl.sz_of (by rw [Reps.len r1, Reps.len r]; exact hl), fun p hp => q p (W1.put p _ (W1.free hp)) (g1.pure.trans (W1.grow_put hp)) ?_ ⟨W1.free hp, _, upd_same, Reps.app r1 r⟩⟩
  cases z : W.H p with
  | none => rfl
  | some o => exact absurd hp (g1.md.d p (by rw [z]; exact fun y => by cases y))⟩
theorem q_asgG {α : Type} [Py α] {ε : Ef} {K : Fg} {σ : SS} {W : Wd} {D : Ends} {te : TE} {g : TG} {tz : TS} {x : α} (h : EvR ε K te σ W x) (s : ε.I W) (k : ∀ v W', Stp ε W W' → rep K W'.B v x → g v σ W'.H fun σ2 H2 => tz D σ2 H2) : tSeq (tAsg te g) tz D σ W.H := h W (.start s) _ k
theorem EvJ.toIs {α : Type} [Py α] {ε : Ef} {K : Fg} {wi : TI} {σ : SS} {W : Wd} {xs ys : List α} (h : EvJ ε K wi σ W xs) (e : xs = ys) : EvJ ε K wi σ W ys := e ▸ h
end B
/-! B: a row that is a list or a tuple, walked; sorted(set(tuple)); a tuple's steps -/
namespace BY
open PySem PySem.Spec PyProof.Rows L2
section
variable {prog : Program} {w : World} {A : Around} {E : Value → Shared → Prop} {s : Shared} {a : Addr}
theorem sorted_setO {S : Int → Bool} {n : Nat} {Q : Value → Shared → Prop} (R : SetR w s.heap a S n) (hh : A.handled = none) (hz0 : n ≤ 4000)
    (hQ : ∀ s' p (out : List Value) (c : Nat) (ns : List Int), (∀ b o, s.heap.get? b = some o → s'.heap.get? b = some o) → s'.gens = s.gens → s'.os = s.os → s.heap.objs.size ≤ p →
      s'.heap.get? p = some (seqObj "list" out.toArray c) → IntsAre out ns → ns.Pairwise (· < ·) → (∀ k, k ∈ ns ↔ S k = true) → ns.length = n → Q (.ref p) s') :
    wpAny (model prog w) A (call (.builtin "sorted") [.ref a]) Q E s := by
  obtain ⟨o, es, ep, t, ho, hex, hd, g, nd, hm, hb, hf, hn, hr, hl⟩ := R
  refine Calls.call_function_entry kind_sorted plain_sorted entry_sorted (args_sorted1 _) ?_
  unfold Builtin.«sorted»
  refine wpAny_bind (m := checkCount "sorted" 1 1 _) (wpAny_pure ?_)
  refine wpAny_bind (collect_set (A := A.in1) hh ⟨o, ho, hex.1, hd⟩ hf hb hr hl fun s1 vs k1 hz g1 o1 pm => ?_)
  have hvl : vs.length = n := by rw [pm.length_eq, List.length_map, Array.length_toList]; exact hn
  have hI : IntsAre vs (vs.map Builtin.Re.reRawOf) := ints_of vs fun v hv => by
    obtain ⟨e, he, q⟩ := List.mem_map.mp (pm.mem_iff.mp hv)
    obtain ⟨k, tk, h1, _⟩ := g e he
    exact ⟨k, tk, by rw [← q]; exact h1⟩
  have pk : (vs.map Builtin.Re.reRawOf).Perm (es.toList.map keyOf) := by
    have q := pm.map Builtin.Re.reRawOf
    rw [List.map_map] at q
    exact q
  have hzl : vs.length ≤ sizeLine := by rw [hvl, sizeLine_eq]; omega
  refine wpAny_bind (wpAny_newList ?_ hzl)
  have hoL : (s1.heap.push (seqObj "list" vs.toArray 0)).get? s1.heap.objs.size = some (seqObj "list" vs.toArray 0) := Heap.get?_push_size _ rfl
  refine wpAny_bind (wpAny_holding (wpAny_call_entry slot_list_sort ⟨_, hoL, rfl⟩ entry_list_sort (SrtO.list_sort_ord SrtO.swo_int hoL hzl (fun h2 => SrtO.ints_sortable hI h2) fun out hs hb' => ⟨_, rfl, ?_⟩) (args_list_sort _)))
  obtain ⟨c, hc⟩ := sortedHeap_at (vs := vs) (out := out.toArray) hoL
  obtain ⟨a1, a2, a3⟩ := SrtO.ints_out hI hs hb'
  have pn : (out.map SrtO.iv).Perm (es.toList.map keyOf) := a2.trans pk
  refine wpAny_pure ⟨_, rfl, hQ _ s1.heap.objs.size out c (out.map SrtO.iv) (fun b u e => ?_) g1 o1 hz hc a1 (lt_of_le_nodup _ a3 (pn.nodup_iff.mpr nd)) (fun k => by rw [pn.mem_iff, ← hm k]) ?_⟩
  · have q := k1 b u e
    have hlt := Heap.lt_size q
    show (sortedHeap (s1.heap.push (seqObj "list" vs.toArray 0)) s1.heap.objs.size vs out.toArray).get? b = some u
    rw [sortedHeap_old (Nat.ne_of_lt hlt) (by rw [size_push']; exact Nat.lt_succ_of_lt hlt)]
    exact Heap.get?_push_of_some _ q
  · rw [pn.length_eq, List.length_map, Array.length_toList]; exact hn
end
section
variable {X : Cx} {tg : Expr}
/-- sorted(set(t)), a tuple of ints -/
def tSortSet (K : PySem.W.Frag) (ta : TE) : TE := fun σ H Q => ta σ H fun x H1 => ∃ (l : Addr) (ns : List Int), x = .ref l ∧ SqT K H1 l (ns.map V.int) ∧ ns.length ≤ 4000 ∧
  ∀ (ns' : List Int) (p : Addr), ns'.Pairwise (· < ·) → (∀ k, k ∈ ns' ↔ k ∈ ns) → H1 p = none → Q (.ref p) (upd H1 p (.lst (ns'.map V.int)))
theorem set_sorted {pins : List (Addr × Obj)} {σ : L2.St} {H1 : Hp} {s2 : Shared} {b : Addr} {ns : List Int} {c : Nat} {Q : VK} (I2 : L2.Inv X pins σ H1 s2) (hS : SetR X.w s2.heap b (fun j => decide (j ∈ ns)) c) (hc4 : c ≤ 4000) (hc : X.calm = true)
    (q1 : ∀ (ns' : List Int) (p : Addr), ns'.Pairwise (· < ·) → (∀ k, k ∈ ns' ↔ k ∈ ns) → H1 p = none → Q (.ref p) (upd H1 p (.lst (ns'.map V.int)))) :
    wpAny (model X.prog X.w) X.A (call (.builtin "sorted") [.ref b]) (EP X pins σ Q) X.xe s2 := by
  refine sorted_setO hS (I2.ok.hd hc) hc4 fun s' p out c2 ns' k g o hp hg' hi hs hm' hl' => ?_
  have hlen' : (ns'.map V.int).length ≤ sizeLine := by rw [List.length_map, hl', sizeLine_eq]; omega
  have hn : H1 p = none := I2.hok.fresh hp
  have J : Inv X pins σ (upd H1 p (.lst (ns'.map V.int))) { s2 with heap := s'.heap, gens := s'.gens, drawn := s'.drawn, toks := s'.toks } :=
    I2.call (ch := []) (Un.laid k hp hn) (I2.hok.laid k hp ⟨hlen', out, c2, vals_of_ints hi, hg'⟩) (by rw [g]; exact I2.bare) (fun _ z => nomatch z)
  have e : s' = { s2 with heap := s'.heap, gens := s'.gens, drawn := s'.drawn, toks := s'.toks } := by
    cases s'
    cases s2
    cases o
    rfl
  rw [e]
  exact ⟨.ref p, _, J, rfl, q1 ns' p hs (fun k => by rw [hm' k, decide_eq_true_eq]) hn⟩
theorem pe_sortSet {a : Expr} {ta : TE} {p p2 q pos : Pos} (hg : Gl X "sorted") (hm : X.mg "sorted" = none) (hg2 : Gl X "set") (hm2 : X.mg "set" = none) (ha : PE X a ta) (hc : X.calm = true := by rfl)
    (na : starEach [a] X.env = (false, eval a X.env) :: starEach [] X.env := by rfl) : PE X (.Call (.Name "sorted" p) [.Call (.Name "set" p2) [a] [] q] [] pos) (tSortSet X.K ta) := by
  refine ⟨fun pins s σ H Q I h => ?_⟩
  refine Call_ (ld_blt I hg hm (show bootBuiltins "sorted" = some (.builtin "sorted") by decide +kernel) ?_)
  refine PyProof.Rows.callWith_builtin1 (PyProof.Rows.args_cons ?_ rfl) rfl rfl
  refine Call_ (ld_blt I hg2 hm2 boot_set ?_)
  refine PyProof.Rows.callWith_type1 (PyProof.Rows.args_cons (thn (ha.run pins s σ H _ I h) fun v s1 ⟨x, H1, I1, r1, q1⟩ => PyProof.Rows.args_nil ?_) na) na rfl
  obtain ⟨l, ns, rfl, hq, hl, q1⟩ := q1
  cases r1
  obtain ⟨its, r, pl, hz⟩ := I1.tuple hq
  have hlen : its.length = ns.length := by rw [← r.length, List.length_map]
  refine call_set_tupI ns (I1.ok.hd hc) (items := its.toArray) ?_ (by simpa using r.ints) (by unfold scanBound; omega) fun h' tk c hS hc' hk => ?_
  · exact pl
  refine PyProof.Rows.args_nil ?_
  have I2 : Inv X pins σ H1 { s1 with heap := h', toks := tk } := I1.kept fun b o e => hk b o e
  exact set_sorted I2 hS (by omega) hc q1
/-- a row, a list or a tuple, walked -/
def iSeq (K : PySem.W.Frag) (tl : TE) : TI := fun σ H R => iList K tl σ H R ∨ iTup K tl σ H R
theorem pi_seq {l : Expr} {tl : TE} (hl : PE X l tl) : PI X tg l (iSeq X.K tl) := by
  refine ⟨fun pins s σ H R I h => ?_⟩
  rcases h with h | h
  · exact (pi_list hl).run pins s σ H R I h
  · exact (pi_tup hl).run pins s σ H R I h
/-! ### t[lo:hi:k] -/
theorem vals_pick {xs : List V} {us : List Value} (r : Vals xs us) : ∀ l : List Nat, Vals (l.filterMap fun m => xs[m]?) (l.filterMap fun m => us.toArray[m]?)
  | [] => .nil
  | m :: l => by
    have ih := vals_pick r l
    cases hx : xs[m]? with
    | none =>
      have hu := r.none_of hx
      rw [List.filterMap_cons_none hx, List.filterMap_cons_none (by simpa using hu)]
      exact ih
    | some x =>
      obtain ⟨u, hu, ru⟩ := r.get hx
      rw [List.filterMap_cons_some hx, List.filterMap_cons_some (b := u) (by simpa using hu)]
      exact .cons ru ih
/-- the places of [lo:hi:k] among n -/
def stepIx (lo hi : Option Int) (k : Int) (n : Nat) : List Nat :=
  (List.range (Builtin.Slice.slicePlaces (Builtin.Slice.sliceAdjust lo hi k n).1 (Builtin.Slice.sliceAdjust lo hi k n).2 k)).map fun (m : Nat) => ((Builtin.Slice.sliceAdjust lo hi k n).1 + (m : Int) * k).toNat
def tTupStep (K : PySem.W.Frag) (te : TE) (lo hi : Option Int) (k : Int) : TE := fun σ H Q => te σ H fun x H1 => ∃ a xs, x = .ref a ∧ SqT K H1 a xs ∧ (stepIx lo hi k xs.length).length ≤ sizeLine ∧
  ∀ p, H1 p = none → Q (.ref p) (upd H1 p (.tup ((stepIx lo hi k xs.length).filterMap fun m => xs[m]?)))
/-- a part of a slice that is left out or is a number in the text -/
structure PCn (X : Cx) (e : Option Expr) (o : Option Int) : Prop where
  run : ∀ (pins : List (Addr × Obj)) (s : Shared) (σ : L2.St) (H : Hp) (R : Value → Shared → Prop), Inv X pins σ H s → (∀ u, IsPart u o → ∀ s', Inv X pins σ H s' → R u s') → wpAny (model X.prog X.w) X.A (evalPart e X.env) R X.xe s
theorem pc_none : PCn X none none := ⟨fun pins s σ H R I h => thn (po_none.run pins s σ H (fun o H2 => o = none ∧ H2 = H) I ⟨rfl, rfl⟩) fun vl s2 ⟨l, H2, I2, pl, el, e2⟩ => by
  subst el e2
  exact h _ pl _ I2⟩
theorem pc_pos {i : Nat} {k : Nat} {p : Pos} : PCn X (some (.Constant (.int i) k p)) (some i) := ⟨fun pins s σ H R I h => by
  have hst : PO X (some (.Constant (.int i) k p)) (tPart (tC (.int i))) := po_some pe_int
  exact thn (hst.run pins s σ H (fun o H2 => o = some (i : Int) ∧ H2 = H) I ⟨i, rfl, rfl, rfl⟩) fun vl s2 ⟨l, H2, I2, pl, el, e2⟩ => by
    subst el e2
    exact h _ pl _ I2⟩
theorem pc_neg {i : Nat} {k : Nat} {p p2 : Pos} : PCn X (some (.UnaryOp .USub (.Constant (.int i) k p) p2)) (some (-(i : Int))) := ⟨fun pins s σ H R I h => by
  have hst : PO X (some (.UnaryOp .USub (.Constant (.int i) k p) p2)) (tPart (tUn (rU fun i => .int (-i)) (tC (.int i)))) := po_some (pe_un un_neg pe_int)
  exact thn (hst.run pins s σ H (fun o H2 => o = some (-(i : Int)) ∧ H2 = H) I ⟨i, rfl, _, rfl, rfl, rfl⟩) fun vl s2 ⟨l, H2, I2, pl, el, e2⟩ => by
    subst el e2
    exact h _ pl _ I2⟩
section
variable {prog : Program} {w : World} {A : Around} {E : Value → Shared → Prop} {s : Shared}
theorem sliceApplied_step {sl : Addr} {vl vu vs : Value} {lo hi : Option Int} {k : Int} {n : Nat} {Q : Int × Int × Nat → Shared → Prop} (hs : s.heap.IsSliceOf sl vl vu vs) (pl : IsPart vl lo) (pu : IsPart vu hi) (ps : IsPart vs (some k)) (h0 : k ≠ 0)
    (h : Q ((Builtin.Slice.sliceAdjust lo hi k n).1, k, Builtin.Slice.slicePlaces (Builtin.Slice.sliceAdjust lo hi k n).1 (Builtin.Slice.sliceAdjust lo hi k n).2 k) s) : wpAny (model prog w) A (Builtin.Slice.sliceApplied (.ref sl) (pure (n : Int))) Q E s := by
  obtain ⟨os, hos, hcs, hds⟩ := id hs
  unfold Builtin.Slice.sliceApplied Builtin.Slice.sliceFields
  refine wpAny_bind (wpAny_bind (wpAny_field hos hds (x := vl) rfl (wpAny_bind (wpAny_field hos hds (x := vu) rfl (wpAny_bind (wpAny_field hos hds (x := vs) rfl (wpAny_pure ?_)))))))
  refine wpAny_bind (HT.slicePart_ ps ?_)
  show wpAny _ _ (if (k == 0) = true then _ else _) _ _ s
  rw [if_neg (by simpa using h0)]
  refine wpAny_bind (HT.slicePart_ pl (wpAny_bind (HT.slicePart_ pu (wpAny_bind (wpAny_pure ?_)))))
  exact wpAny_pure h
theorem getItem_tuple_step {t sl : Addr} {items : Array Value} {vl vu vs : Value} {lo hi : Option Int} {k : Int} {Q : Value → Shared → Prop} (ht : IsTup s.heap t items) (hs : s.heap.IsSliceOf sl vl vu vs) (pl : IsPart vl lo) (pu : IsPart vu hi) (ps : IsPart vs (some k)) (h0 : k ≠ 0) (h1 : k ≠ 1)
    (h : Q (.ref s.heap.objs.size) { s with heap := s.heap.push { cls := .type "tuple", data := .seq ((stepIx lo hi k items.size).filterMap fun m => items[m]?).toArray } })
    (hsz : (stepIx lo hi k items.size).length ≤ sizeLine) : wpAny (model prog w) A (getItem (.ref t) (.ref sl)) Q E s := by
  have htake : sizeOk (.seq ((stepIx lo hi k items.size).filterMap fun m => items[m]?).toArray) := by
    show ((stepIx lo hi k items.size).filterMap fun m => items[m]?).toArray.size ≤ sizeLine
    rw [List.size_toArray]
    exact Nat.le_trans (List.length_filterMap_le _ _) hsz
  obtain ⟨os, hos, hcs, hds⟩ := id hs
  have hTs : s.TypeIs (.ref sl) "slice" := ⟨os, hos, hcs⟩
  unfold getItem
  try with_reducible refine wpAny_holding ?_
  first | refine wpAny_bind (wpAny_pure ?_) | skip
  refine wpAny_bind (wpAny_sequenceKey ht.typeIs (by decide) ?_)
  refine wpAny_bind (wpAny_callSpecial?_slot (name := Str.ofString "__getitem__") ht.typeIs PyProof.Rows.slot_tuple_getitem
    (wpAny_call_entry PyProof.Rows.slot_tuple_getitem ht.typeIs entry_tuple_getitem ?_ (args_tuple_getitem _ _)))
  show wpAny _ _ (Builtin.Tuple.tupleItemsOf (.ref t) >>= _) _ _ s
  refine wpAny_bind (tupleItemsOf_ ht ?_)
  refine wpAny_bind (wpAny_typeOf hTs ?_)
  rw [if_pos (by decide)]
  refine wpAny_bind (sliceApplied_step hs pl pu ps h0 ?_)
  have hno : ∀ a b : Bool, ¬ ((a && k == 1 && b) = true) := fun a b q => by
    rw [Bool.and_eq_true, Bool.and_eq_true] at q
    exact h1 (eq_of_beq q.1.2)
  show wpAny _ _ (if ((Builtin.Slice.sliceAdjust lo hi k items.size).1 == 0 && k == 1 && Builtin.Slice.slicePlaces (Builtin.Slice.sliceAdjust lo hi k items.size).1 (Builtin.Slice.sliceAdjust lo hi k items.size).2 k == items.size) = true then _ else _) _ _ s
  rw [if_neg (hno _ _)]
  have e : (List.range (Builtin.Slice.slicePlaces (Builtin.Slice.sliceAdjust lo hi k items.size).1 (Builtin.Slice.sliceAdjust lo hi k items.size).2 k)).filterMap (fun (m : Nat) => items[((Builtin.Slice.sliceAdjust lo hi k items.size).1 + (m : Int) * k).toNat]?)
      = (stepIx lo hi k items.size).filterMap fun m => items[m]? := by
    unfold stepIx
    rw [List.filterMap_map]
    rfl
  rw [e]
  first
    | exact wpAny_bind (m := Builtin.Tuple.tupleExact _) (wpAny_newObj_type (wpAny_pure ⟨_, rfl, wpAny_pure h⟩) htake)
    | exact wpAny_bind (m := Builtin.Tuple.tupleExact _) (wpAny_newObj_type (wpAny_bind (wpAny_pure (wpAny_pure ⟨_, rfl, wpAny_pure h⟩))) htake)
    | exact wpAny_bind (wpAny_bind (m := Builtin.Tuple.tupleExact _) (wpAny_newObj_type (wpAny_pure (wpAny_pure ⟨_, rfl, wpAny_pure h⟩)) htake))
    | exact wpAny_bind (wpAny_bind (m := Builtin.Tuple.tupleExact _) (wpAny_newObj_type (wpAny_pure ⟨_, rfl, wpAny_pure h⟩) htake))
end
theorem pe_tupStep {e : Expr} {te : TE} {lo hi : Option Expr} {st : Expr} {ol oh : Option Int} {k : Int} {p3 pos : Pos} (he : PE X e te) (hl : PCn X lo ol) (hh : PCn X hi oh) (hk : PCn X (some st) (some k)) (h0 : k ≠ 0) (h1 : k ≠ 1) : PE X (.Subscript e (.Slice lo hi (some st) p3) pos) (tTupStep X.K te ol oh k) := by
  refine ⟨fun pins s σ H Q I h => ?_⟩
  refine Subscript_ (thn (he.run pins s σ H _ I h) fun v s1 ⟨x, H1, I1, r1, q1⟩ => ?_)
  obtain ⟨a, xs, ex, hx, hsz, q⟩ := q1
  subst ex
  cases r1
  refine wpAny_Slice (hl.run pins s1 σ H1 _ I1 fun vl pl s2 I2 => hh.run pins s2 σ H1 _ I2 fun vu pu s3 I3 => hk.run pins s3 σ H1 _ I3 fun vs ps s4 I4 => ?_)
  have I5 : Inv X pins σ H1 { s4 with heap := s4.heap.push { cls := .type "slice", data := .fields #[vl, vu, vs] } } := I4.kept (t' := s4.toks) fun b ob q => Heap.get?_push_of_some _ q
  obtain ⟨its, r, ht, hz⟩ := I5.tuple hx
  have hlen : its.toArray.size = xs.length := by rw [List.size_toArray]; exact r.length.symm
  show wpAny (model X.prog X.w) X.A (subscriptTail e (.Slice lo hi (some st) p3) (.ref a) (.ref s4.heap.objs.size)) (EP X pins σ Q) X.xe { s4 with heap := s4.heap.push { cls := .type "slice", data := .fields #[vl, vu, vs] } }
  refine tail_any (ops := [.ref a, .ref s4.heap.objs.size]) ht.typeIs PyProof.Rows.slot_tuple_getitem.lookup ?_ (by with_unfolding_all rfl)
  refine getItem_tuple_step ht (Heap.IsSliceOf.new _ vl vu vs) pl pu ps h0 h1 ?_ (by rw [hlen]; exact hsz)
  rw [hlen]
  refine ⟨.ref _, _, I5.laid (t' := s4.toks) (o := .tup ((stepIx ol oh k xs.length).filterMap fun m => xs[m]?)) (fun b ob q => Heap.get?_push_of_some _ q) (Nat.le_refl _) ?_, rfl, q _ (I5.hok.fresh (Nat.le_refl _))⟩
  exact ⟨Nat.le_trans (List.length_filterMap_le _ _) hsz, _, vals_pick r _, IsTup.new _ _⟩
end
end BY
namespace B
open PySem L2
open PySem.W (Tup T3 T4 Datum DatumOrd)
open Evl (Ex)
section
variable {α β γ δ : Type} [Py α] [Py β] [Py γ] [Py δ] {K : Fg} {W W' : Wd} {σ : SS} {ε : Ef} {te ta tb tc td : TE}
theorem asc_uniq : ∀ {xs ys : List Int}, xs.Pairwise (· < ·) → ys.Pairwise (· < ·) → (∀ k, k ∈ xs ↔ k ∈ ys) → xs = ys
  | [], [], _, _, _ => rfl
  | [], y :: ys, _, _, h => absurd ((h y).mpr List.mem_cons_self) (by simp)
  | x :: xs, [], _, _, h => absurd ((h x).mp List.mem_cons_self) (by simp)
  | x :: xs, y :: ys, h1, h2, h => by
    obtain ⟨a1, a2⟩ := List.pairwise_cons.mp h1
    obtain ⟨b1, b2⟩ := List.pairwise_cons.mp h2
    have e : x = y := by
      have p := (h x).mp List.mem_cons_self
      have q := (h y).mpr List.mem_cons_self
      rcases List.mem_cons.mp p with p | p
      · exact p
      · rcases List.mem_cons.mp q with q | q
        · exact q.symm
        · have := b1 x p
          have := a1 y q
          omega
    subst e
    rw [asc_uniq a2 b2 fun k => ⟨fun m => ?_, fun m => ?_⟩]
    · rcases List.mem_cons.mp ((h k).mp (List.mem_cons_of_mem _ m)) with e | e
      · subst e; have := a1 _ m; omega
      · exact e
    · rcases List.mem_cons.mp ((h k).mpr (List.mem_cons_of_mem _ m)) with e | e
      · subst e; have := b1 _ m; omega
      · exact e
theorem ev_sortSetA {xs : Tup Int} (h : EvR ε K ta σ W xs) (hl : xs.items.length ≤ 4000) (hp : xs.items.Pairwise (· < ·)) : EvR ε K (BY.tSortSet K ta) σ W xs.items := fun W1 g1 Q k => h W1 g1 _ fun v W2 g2 ⟨a, vs, e, s, r⟩ => by
  have e2 := reps_int r
  subst e2
  refine ⟨a, xs.items, e, SqT.of (W2.sub.et s), hl, fun ns p hs hm hn => ?_⟩
  rw [asc_uniq hs hp hm]
  exact k _ (W2.add p _) (g2.and (W2.grow_add hn)) ⟨p, _, rfl, upd_same, Reps.mono (exExt (W2.grow_add hn).b) r⟩
theorem ei_seqL {xs : List α} (h : EvR ε K te σ W xs) : EvJ ε K (BY.iSeq K te) σ W xs := fun W1 g1 R k => .inl (ei_list h W1 g1 R k)
theorem ei_seqT {xs : Tup α} (h : EvR ε K te σ W xs) : EvJ ε K (BY.iSeq K te) σ W xs.items := fun W1 g1 R k => .inr (ei_tup h W1 g1 R k)
/-- a tuple of four, [::2] -/
theorem ev_stepA {p : T4 α β γ δ} (h : EvR ε K te σ W p) : EvR ε K (BY.tTupStep K te none none 2) σ W (p.a, p.c) := fun W1 g1 Q k => h W1 g1 _ fun v W2 g2 ⟨a, x, y, z, w, e, s, r1, r2, r3, r4⟩ => by
  refine ⟨a, _, e, SqT.of (W2.sub.et s), (by decide : (BY.stepIx none none 2 4).length ≤ sizeLine), fun p hp => ?_⟩
  have e2 : (BY.stepIx none none 2 [x, y, z, w].length).filterMap (fun m => [x, y, z, w][m]?) = [x, z] := by
    have : BY.stepIx none none 2 4 = [0, 2] := by decide
    show (BY.stepIx none none 2 4).filterMap _ = _
    rw [this]
    rfl
  rw [e2]
  exact k _ (W2.add p _) (g2.and (W2.grow_add hp)) ⟨p, x, z, rfl, upd_same, rep_g (W2.grow_add hp) r1, rep_g (W2.grow_add hp) r3⟩
/-- a tuple of four, [2::-2] -/
theorem ev_stepB {p : T4 α β α δ} (h : EvR ε K te σ W p) : EvR ε K (BY.tTupStep K te (some 2) none (-2)) σ W (Tup.mk [p.c, p.a]) := fun W1 g1 Q k => h W1 g1 _ fun v W2 g2 ⟨a, x, y, z, w, e, s, r1, r2, r3, r4⟩ => by
  refine ⟨a, _, e, SqT.of (W2.sub.et s), (by decide : (BY.stepIx (some 2) none (-2) 4).length ≤ sizeLine), fun p hp => ?_⟩
  have e2 : (BY.stepIx (some 2) none (-2) [x, y, z, w].length).filterMap (fun m => [x, y, z, w][m]?) = [z, x] := by
    have : BY.stepIx (some 2) none (-2) 4 = [2, 0] := by decide
    show (BY.stepIx (some 2) none (-2) 4).filterMap _ = _
    rw [this]
    rfl
  rw [e2]
  exact k _ (W2.add p _) (g2.and (W2.grow_add hp)) ⟨p, [z, x], rfl, upd_same, .cons (rep_g (W2.grow_add hp) r3) (.cons (rep_g (W2.grow_add hp) r1) .nil)⟩
theorem ro_rep {xs : List α} {n : Int} (h1 : 0 ≤ n) (h2 : n ≤ 1000) (hl : xs.length ≤ 100) : RO K rRep xs n (List.replicate n.toNat xs).flatten := fun v u W1 ⟨a, vs, e, s, r⟩ ru Q k =>
  ⟨a, n, vs, e, ru, W1.sub.el s, by omega, by omega, Evl.sz_of (by rw [Reps.len r]; exact Nat.le_trans (Nat.mul_le_mul hl (show n.toNat ≤ 1000 by omega)) (by decide)), fun p hp =>
    k _ (W1.add p _) (W1.grow_add hp) ⟨p, _, rfl, upd_same, Reps.mono (exExt (W1.grow_add hp).b) (reps_rep r _)⟩⟩
theorem s_par {D : Ends} {i j : Nat} {P R : V → Wd → Prop} (ha : EvP ε ta σ W P) (hb : EvP ε tb σ W R) (s : ε.I W) (mono : ∀ v W W', Stp ε W W' → P v W → P v W')
    (k : ∀ v u W', Stp ε W W' → P v W' → R u W' → D.nx ((σ.set i (some v)).set j (some u)) W'.H) : tPar i j (tCons ta (tCons tb tNil)) D σ W.H :=
  ha W (.start s) _ fun v W1 g1 p => hb W1 g1 _ fun u W2 g2 r => ⟨v, u, rfl, k v u W2 (g1.trans g2) (mono v W1 W2 g2 p) r⟩
theorem q_par3 {D : Ends} {tz : TS} {i j l : Nat} {P R S : V → Wd → Prop} (ha : EvP ε ta σ W P) (hb : EvP ε tb σ W R) (hc : EvP ε tc σ W S) (s : ε.I W) (m1 : ∀ v W W', Stp ε W W' → P v W → P v W') (m2 : ∀ v W W', Stp ε W W' → R v W → R v W')
    (k : ∀ v u w W', Stp ε W W' → P v W' → R u W' → S w W' → tz D (((σ.set i (some v)).set j (some u)).set l (some w)) W'.H) : tSeq (tPar3 i j l (tCons ta (tCons tb (tCons tc tNil)))) tz D σ W.H :=
  ha W (.start s) _ fun v W1 g1 p => hb W1 g1 _ fun u W2 g2 r => hc W2 (g1.trans g2) _ fun w W3 g3 q => ⟨v, u, w, rfl, k v u w W3 ((g1.trans g2).trans g3) (m1 v W1 W3 (g2.trans g3) p) (m2 u W2 W3 g3 r) q⟩
end
end B
/-! BX: errors that are kept behind their except suite -/
namespace BX
open PySem PySem.Spec PyProof.Rows L2
/-- an error of the class cls that was caught stands at a -/
def ExK (cls : Value) (d : Option Addr) (a : Addr) : HO := .ext fun h => ∃ (oe : Obj) (vs : Array Value), h.get? a = some oe ∧ Zc cls d oe ∧ oe.data = .fields vs
section
variable {X : Cx} {pins : List (Addr × Obj)} {σ : L2.St} {H : Hp} {s : Shared}
/-- an object that isn't tracked is tracked from now on -/
theorem track {a : Addr} {oe : Obj} {vs : Array Value} {cls : Value} {d : Option Addr} (I : L2.Inv X pins σ H s) (ha : s.heap.get? a = some oe) (hz : Zc cls d oe) (hd : oe.data = .fields vs) (n0 : X.s_0.heap.get? a = none) (na : H a = none) (nL : a ≠ X.env.locals) (hp : ∀ p ∈ X.pn ++ pins, p.1 ≠ a) :
    L2.Inv X pins σ (upd H a (ExK cls d a)) s := by
  have ne0 : ∀ b o, X.s_0.heap.get? b = some o → b ≠ a := fun b o e z => by
    rw [z, n0] at e
    cases e
  have neS : ∀ b o, H b = some o → b ≠ a := fun b o e z => by
    rw [z, na] at e
    cases e
  refine ⟨I.ok, I.os, I.bare, ⟨I.base.keep, I.base.slot, fun b o e n hq => ?_, I.base.there, fun b xs e => ?_, fun b o u e => ?_, fun b ps e => ?_⟩, I.loc, I.cell, ?_, fun x c e => ?_, fun p hq => ?_, fun b u e => ?_, I.len⟩
  · rw [upd_ne (ne0 b o e)]
    exact I.base.free b o e n hq
  · have q := I.base.tups b xs e
    rw [upd_ne (neS b _ q)]
    exact q
  · have q := I.base.frzs b o u e
    rw [upd_ne (neS b _ q)]
    exact q
  · obtain ⟨m, q⟩ := I.base.tbls b ps e
    exact ⟨m, by rw [upd_ne (neS b _ q)]; exact q⟩
  · rw [upd_ne (Ne.symm nL)]
    exact I.free
  · have hc : c ≠ a := fun z => by
      obtain ⟨v, o, ho, hv⟩ := I.cell x c e
      rw [z, ha] at ho
      cases ho
      rw [hd] at hv
      cases hv
    rw [upd_ne hc]
    exact I.freeC x c e
  · obtain ⟨e, n, ne, nf, dd⟩ := I.pin p hq
    exact ⟨e, by rw [upd_ne (hp p hq)]; exact n, ne, nf, dd⟩
  · by_cases hb : b = a
    · subst hb
      rw [upd_same] at e
      cases e
      exact ⟨⟨oe, vs, ha, hz, hd⟩, ⟨oe, ha⟩, fun _ _ ⟨o, v, q, r⟩ k => ⟨o, v, k o q, r⟩⟩
    · rw [upd_ne hb] at e
      exact (I.hok b u e).stay (fun c v _ q => q) (fun c q => by rw [upd_ne (neS c _ q)]; exact q) fun c xs q => by rw [upd_ne (neS c _ q)]; exact q
end
/-- what the clause 'except x as n' wishes of an exception of the body, where the error stays behind the suite -/
def wAsK (K : PySem.W.Frag) (c : Value) (i : Nat) (ts : Addr → Value → Option Addr → TS) (Wout : WX) (D : Ends) : WX := fun cls d σ H =>
  ∃ b, PySem.W.exmOne K cls c = some b ∧ (b = true → ∀ a, H a = none → ts a cls d { nx := fun σ' H' => H' a = none → D.nx (σ'.set i none) (upd H' a (ExK cls d a)), rt := D.rt, bk := fun σ' H' => D.bk (σ'.set i none) H', ct := fun σ' H' => D.ct (σ'.set i none) H' } (σ.set i (some (.ref a))) H) ∧
    (b = false → Wout cls d σ H)
section
variable {X : Cx} {x n : Str} {c : Value} {i : Nat} {body suite : List Stmt} {b₀ : Stmt} {np pos pos' : Pos} {tb : WX → TS} {ts : Addr → Value → Option Addr → TS} {Wout : WX}
theorem ps_try_asK (hs : X.stack = X.env :: X.outer) (hf : X.env.frame = some X.env.locals) (hN : X.N.Nodup) (hi : X.N[i]? = some n) (hln : X.env.kindOf n = some .local) (hc : Names X x c) (tk : Takes X Wout)
    (hb : ∀ (W : WX) (pn : List (Addr × Obj)) (xe : Value → Shared → Prop), Takes (X.tr pn xe) W → PassesOwn (model X.prog X.w) X.A X.env xe → PSs (X.tr pn xe) body (tb W))
    (hsu : ∀ (a : Addr) (oe : Obj) (cls : Value) (d : Option Addr) (pn : List (Addr × Obj)), Zc cls d oe → (∃ vs, oe.data = .fields vs) → PSs (X.suite a ((a, oe) :: pn)) (b₀ :: suite) (ts a cls d)) (hex : X.ex = []) :
    PS X (.Try body [.ExceptHandler (some (.Name x np)) (some n) (b₀ :: suite) pos'] [] [] pos) (fun D σ H => tb (wAsK X.K c i ts Wout D) D σ H) := by
  refine ⟨fun pins s σ H D I h => ?_⟩
  have ok := I.ok
  have hfr : X.A.frames = some (X.env :: X.outer) := by rw [ok.frames, hs]
  have hloc : Loc X.env.scope n := .inl hln
  refine wpAny_Try_except ?_
  refine wpAny_mono ((hb (wAsK X.K c i ts Wout D) (X.pn ++ pins) (fun e s₁ => wpAny (model X.prog X.w) X.A (noteFrame e X.env) (fun _ s₂ => wpAny (model X.prog X.w) X.A (setFlight e none) (fun _ s₃ =>
    wpAny (model X.prog X.w) X.A (handleBy e X.env [.ExceptHandler (some (.Name x np)) (some n) (b₀ :: suite) pos']) (SP X pins D) X.xe s₃) X.xe s₂) X.xe s₁) (fun u s' xx => ?_) PassesOwn.looking).run [] s σ H D (I.toTry _) h) (fun f s1 hsp => ?_) (fun e s1 he => he)
  · -- the catch
    obtain ⟨a, B, sI, pins', σ', H', cls, d, rfl, J', nb, up, sky, na, os, ag, b, hb1, hyes, hno⟩ := xx
    have J : L2.Inv X pins σ' H' sI := J'.ofTry ok
    have sky' : Sky B (X.env :: X.outer) a (Zc cls d) X.env.locals s'.heap := by rw [← hs]; exact sky
    show wpAny (model X.prog X.w) X.A (noteFrame (.ref a) X.env) _ _ _
    refine Sky.land Zc.steady hfr hf sky' fun h3 fl3 up3 => ?_
    have J3 : L2.Inv X pins σ' H' { s' with heap := h3 } := J.landed nb fl3.1 (up.trans up3) os ag
    obtain ⟨oe3, vs3, he3, hz3, hd3⟩ := fl3.there
    have notFr : ∀ {h : Heap} {o : Obj} {vs : Array Value}, h.FunFrames B (X.env :: X.outer) → h.get? a = some o → o.data = .fields vs → a ∉ frs (X.env :: X.outer) := fun {h o vs} ff e dd hm => by
      obtain ⟨_, o', e', hnf⟩ := ff.mem hm
      rw [e] at e'; cases e'
      exact hnf _ dd
    have nfr := notFr fl3.2.2.1 he3 hd3
    have nI : sI.heap.get? a = none := by
      cases q : sI.heap.get? a with
      | none => rfl
      | some o =>
        have z := nb a o q (by rw [hs]; exact nfr)
        rw [fl3.2.1] at z
        cases z
    have n0 : X.s_0.heap.get? a = none := by
      cases q : X.s_0.heap.get? a with
      | none => rfl
      | some o =>
        obtain ⟨o', z⟩ := J.base.there a o q (by rw [hex]; exact fun z => nomatch z)
        rw [nI] at z
        cases z
    have npin : ∀ p ∈ X.pn ++ pins, p.1 ≠ a := fun p hp z => by
      have q := (J.pin p hp).1
      rw [z, nI] at q
      cases q
    have nL : a ≠ X.env.locals := fun z => nfr (List.mem_filterMap.mpr ⟨X.env, List.mem_cons_self, by rw [hf, z]⟩)
    have nF : a ∉ X.fs := fun hm => by
      obtain ⟨e, he, q⟩ := List.mem_filterMap.mp hm
      exact nfr (List.mem_filterMap.mpr ⟨e, List.mem_cons_of_mem _ he, q⟩)
    have S3 := J3.suite he3 hd3 na nL nF
    refine wpAny_handleBy_cons (codeAny_handlers_test ?_) (by intro q; cases q)
    have LT : PySem.W.Looks (model X.prog X.w) h3 (typeOf (.ref a)) cls := fun A Q E s k q => wpAny_typeOf_ref (k _ _ he3) (by rw [hz3.1]; exact q)
    have LM := PySem.W.exm_one (M := model X.prog X.w) (J3.kIn) LT hb1
    have test : ∀ {Q : Value → Shared → Prop} {E : Value → Shared → Prop}, Q c { s' with heap := h3 } → wpAny (model X.prog X.w) (X.A.mark (some (.ref a))) (eval (.Name x np) X.env) Q E { s' with heap := h3 } := fun {Q E} q => by
      obtain ⟨hg, hdbg, hm | ⟨hm, hv, hnn⟩⟩ := hc
      · exact ld_glob (X := X.suite a ((a, oe3) :: (X.pn ++ pins))) S3 hg hm q hdbg
      · exact ld_blt (X := X.suite a ((a, oe3) :: (X.pn ++ pins))) S3 hg hm hv q hnn hdbg
    refine test (LM.here ?_)
    cases b with
    | true =>
      refine codeAny_handlers_suite_as ?_
      refine HandSPX.lands_againZ fl3 fun h4 fl4 up4 => ?_
      have J4 : L2.Inv X pins σ' H' { s' with heap := h4 } := J.landed nb fl4.1 ((up.trans up3).trans up4) os ag
      obtain ⟨oe4, vs4, he4, hz4, hd4⟩ := fl4.there
      have S4 := J4.suite he4 hd4 na nL nF
      refine store_ok (X := X.suite a ((a, oe4) :: (X.pn ++ pins))) (v := .ref a) S4 hN hi hloc rfl (fun s5 S5 => ?_) (.inr hln)
      refine wpAny_mono ((hsu a oe4 cls d (X.pn ++ pins) hz4 ⟨_, hd4⟩).run [] s5 _ H' _ S5 (hyes rfl a na)) (fun f s6 hsp => ?_) (fun _ _ z => False.elim z)
      have end_ : ∀ {σ6 : L2.St} {H6 : Hp} {Q : Shared → Prop}, L2.Inv X pins σ6 H6 s6 → (∀ s7, L2.Inv X pins (σ6.set i none) H6 s7 → Q s7) →
          wpAny (model X.prog X.w) X.A (do bindName X.env n .none; unbindBehindTheSuite X.env n pos') (fun _ s7 => Q s7) X.xe s6 := fun {σ6 H6 Q} S6 hq => gone_ok S6 hN hi hln hq
      cases f with
      | next =>
        obtain ⟨σ6, H6, S6, q6⟩ := hsp
        obtain ⟨p1, p2, _⟩ := S6.pin (a, oe4) (List.mem_append_left _ List.mem_cons_self)
        exact end_ (track (S6.unsuite ok) p1 hz4 hd4 n0 p2 nL npin) fun s7 J7 => ⟨_, _, J7, q6 p2⟩
      | brk =>
        obtain ⟨σ6, H6, S6, q6⟩ := hsp
        exact end_ (S6.unsuite ok) fun s7 J7 => ⟨_, _, J7, q6⟩
      | cont =>
        obtain ⟨σ6, H6, S6, q6⟩ := hsp
        exact end_ (S6.unsuite ok) fun s7 J7 => ⟨_, _, J7, q6⟩
      | ret u =>
        obtain ⟨v6, σ6, H6, S6, r6, q6⟩ := hsp
        exact end_ (S6.unsuite ok) fun s7 J7 => ⟨_, _, _, J7, r6, q6⟩
    | false =>
      show wpAny _ X.A (handleBy (.ref a) X.env []) _ _ _
      refine wpAny_handleBy_nil ?_
      obtain ⟨k1, k2, k3, oe, vs, T, oT, ts', he, hz, hd, h1, hr⟩ := id fl3
      unfold PySem.passOn
      refine wpAny_bind (wpAny_field he hd h1 ?_)
      rw [if_neg (show ¬ ((Value.ref T == Value.none) = true) from by simp)]
      have fin : wpAny (model X.prog X.w) X.A (setFlight (.ref a) X.env.frame) (fun _ s4 => wpAny (model X.prog X.w) X.A (throw (.ref a) : Sem Flow) (SP X pins D) X.xe s4) X.xe { s' with heap := h3 } := by
        rw [hf]
        refine HandSPX.setFlight_upZ fl3 fun h4 hh4 up4 => wpAny_throw (tk _ _ ?_)
        exact ⟨a, B, sI, pins, σ', H', cls, d, rfl, J, nb, (up.trans up3).trans up4, .inr (.inr (by rw [hs]; exact hh4)), na, os, ag, hno rfl⟩
      first
        | exact wpAny_bind (wpAny_pure (wpAny_bind fin))
        | exact wpAny_bind fin
  · cases f with
    | next =>
      obtain ⟨σ', H', J', q⟩ := hsp
      exact wpAny_execs_nil ⟨σ', H', J'.ofTry ok, q⟩
    | brk =>
      obtain ⟨σ', H', J', q⟩ := hsp
      exact ⟨σ', H', J'.ofTry ok, q⟩
    | cont =>
      obtain ⟨σ', H', J', q⟩ := hsp
      exact ⟨σ', H', J'.ofTry ok, q⟩
    | ret u =>
      obtain ⟨v, σ', H', J', r, q⟩ := hsp
      exact ⟨v, σ', H', J'.ofTry ok, r, q⟩
end
/-- isinstance(e, c), e an error that was kept -/
def rIsK (K : PySem.W.Frag) : List V → Hp → VK → Prop := fun xs H Q => ∃ (a D : Addr) (c : V) (cv : Value) (b : Bool), xs = [.ref a, c] ∧ H a = some (ExK (.ref D) none a) ∧ ExcC K D ∧ (∀ u, RelV c u → u = cv) ∧ PySem.W.kitOne K (.ref D) cv = some b ∧ Q (.bl b) H
theorem call_isK {X : Cx} : CallR X (.builtin "isinstance") (rIsK X.K) := by
  intro pins s σ H xs us Q I r h
  obtain ⟨a, D, c, cv, b, rfl, ha, C, hcv, e, q⟩ := h
  cases r with
  | cons rx rr =>
    cases rr with
    | cons rt rr =>
      cases rr
      cases rx
      have ec := hcv _ rt
      subst ec
      obtain ⟨oe, vs, hget, hz, hv⟩ := (I.hok a _ ha).1
      have J : PySem.W.InstAt s.heap a oe D none := by
        obtain ⟨oc, od, oda, osl⟩ := oe
        obtain ⟨h1, h2⟩ := hz
        dsimp only at h1 h2 hv
        subst h1 h2 hv
        exact ⟨hget, rfl, rfl, trivial⟩
      exact PySem.W.kia_one (PySem.W.handS_kitx_exc C.hg C.hk C.hs C.hd C.ha C.hn C.ht C.hm) I.kIn J e (fun z => nomatch z) fun tk => ⟨.bl b, H, I.kept (t' := tk) fun _ _ z => z, rfl, q⟩
/-- an error's class, over ValueError, without an __init__ of its own -/
structure ErrC (K : PySem.W.Frag) (C : Addr) : Prop where
  k : PySem.W.keepIn K (.ref C) = true
  q : PySem.W.excIn K C [.type "ValueError", .type "Exception", .type "BaseException", .type "object"] "ValueError.__new__" = true
  s : PySem.W.subIn K (.ref C) (.type "BaseException") = some true
  t : PySem.W.typeIn K (.ref C) = some (.type "type")
  e : PySem.W.exmOne K (.ref C) (.ref C) = some true
  c : ExcC K C
  v : PySem.W.kitOne K (.ref C) (.type "ValueError") = some true
/-- an error of the class at S is what «except S» names -/
theorem exm_self {K : PySem.W.Frag} {S : Addr} (h1 : PySem.W.subIn K (.ref S) (.type "BaseException") = some true) (h2 : PySem.W.isClsIn K S = true) (h3 : PySem.W.typeIn K (.ref S) = some (.type "type")) (h4 : PySem.W.subIn K (.ref S) (.ref S) = some true) :
    PySem.W.exmOne K (.ref S) (.ref S) = some true := by
  have e1 : (PySem.W.subIn K (.ref S) (.type "BaseException") == some true) = true := by rw [h1] <;> rfl
  have e2 : ((PySem.W.clsIn K S).isSome && PySem.W.typeIn K (.ref S) == some (.type "type")) = true := by
    have h2' : (PySem.W.clsIn K S).isSome = true := h2
    rw [h2', h3] <;> rfl
  show (if (PySem.W.subIn K (.ref S) (.type "BaseException") == some true) = true then (if ((PySem.W.clsIn K S).isSome && PySem.W.typeIn K (.ref S) == some (.type "type")) = true then PySem.W.subIn K (.ref S) (.ref S) else none) else none) = some true
  rw [if_pos e1, if_pos e2]
  exact h4
theorem kit_ve {K : PySem.W.Frag} {C : Addr} {T : String} (hm : PySem.W.kitMeta T = true) (h : PySem.W.subIn K (.ref C) (.type T) = some true) : PySem.W.kitOne K (.ref C) (.type T) = some true := by
  unfold PySem.W.kitOne
  rw [if_neg (show ¬ ((Value.ref C == Value.type T) = true) from fun z => by have := eq_of_beq z; cases this)]
  show (if PySem.W.kitMeta T = true then _ else _) = _
  rw [if_pos hm]
  exact h
/-- raise C('..') out of a def -/
abbrev tRaiseO (C : Addr) (E : XK) : TS := fun _ _ H => E (.ref C) none H
/-- try: body, except C as n (slot i): suite -/
abbrev tTryK (K : PySem.W.Frag) (C : Addr) (i : Nat) (tb : WX → TS) (ts : Addr → Value → Option Addr → TS) : TS := fun D σ H => tb (wAsK K (.ref C) i ts (fun _ _ _ _ => False) D) D σ H
theorem ps_raiseO {X : Cx} {E : XK} {C : Addr} {x m : Str} {j : Nat} {p p2 pos pos2 : Pos} {E₁ : Value → Shared → Prop} (c : ErrC X.K C) (g : X.mg x = some (.ref C)) (hc : X.calm = true) (hs : X.stack = X.env :: X.outer) (hf : X.env.frame = some X.env.locals) (hex : X.ex = [])
    (hx : X.xe = fun e s' => wpAny (model X.prog X.w) X.A (leaving X.env e) (fun _ s'' => L2.CX X.prog X.w X.outer X.H_0 X.s_0 E e s'') E₁ s') (hg : Gl X x) (hdb : (x == ("__debug__" : Str)) = false := by decide) :
    PS X (.Raise (some (.Call (.Name x p) [.Constant (.str m) j p2] [] pos)) none pos2) (tRaiseO C E) :=
  ps_raise hc (takes_of hs hf hex hx) (pmk_own PySem.F.excBase_ValueError c.q g c.k (raises_own c.s c.t) hg hdb)
end BX
/-! B: shifts; odd things of any kind; slices of a tuple of four -/
namespace B
open PySem L2
open PySem.W (Tup T3 T4 Datum DatumOrd)
open Evl (Ex)
abbrev oShl : R2 := rI CPow fun i j => .int (i * 2 ^ j.toNat)
abbrev oShr : R2 := rI (fun _ j => 0 ≤ j) fun i j => .int (i / 2 ^ j.toNat)
abbrev oAnd : R2 := rI0 fun i j => .int (Builtin.bitAnd i j)
/-- a thing of any kind -/
inductive Odd where
  | int (n : Int) | bl (b : Bool) | non | str (s : Str) | tup (ns : List Int) | lst (ns : List Int) | dct
def oRep (K : Fg) (H : Hp) (v : V) : Odd → Prop
  | .int n => rep K H v n
  | .bl b => rep K H v b
  | .non => rep K H v ()
  | .str s => rep K H v s
  | .tup n => rep K H v (Tup.mk n)
  | .lst n => rep K H v n
  | .dct => rep K H v (⟨[]⟩ : Dict Int Int)
theorem oRep_mono {K : Fg} {H H' : Hp} {v : V} (e : Ext H H') : ∀ {o : Odd}, oRep K H v o → oRep K H' v o
  | .int n, h => Py.mono (α := Int) e h
  | .bl b, h => Py.mono (α := Bool) e h
  | .non, h => Py.mono (α := Unit) e h
  | .str s, h => Py.mono (α := Str) e h
  | .tup n, h => Py.mono (α := Tup Int) e h
  | .lst n, h => Py.mono (α := List Int) e h
  | .dct, h => Py.mono (α := Dict Int Int) e h
instance : Py Odd := ⟨oRep, fun e h => oRep_mono e h⟩
def Odd.cls : Odd → String
  | .int _ => "int" | .bl _ => "bool" | .non => "NoneType" | .str _ => "str" | .tup _ => "tuple" | .lst _ => "list" | .dct => "dict"
theorem ty_dct {K : Fg} {κ α : Type} [PyKey κ] [Py α] {d : Dict κ α} (W1 : Wd) (v : V) (h : rep K W1.B v d) : TyX K W1.H v (.type "dict") := by
  obtain ⟨a, ks, rfl, h1, _⟩ := h
  rcases W1.sub.rd h1 with z | ⟨o, z⟩
  · exact .base (.dK z)
  · exact .fDict z
theorem ty_odd {K : Fg} (W1 : Wd) (v : V) : ∀ (o : Odd), rep K W1.B v o → TyX K W1.H v (.type o.cls)
  | .int n, h => ty_int W1 v h
  | .bl b, h => ty_bl W1 v h
  | .non, h => ty_non W1 v h
  | .str s, h => ty_str W1 v h
  | .tup n, h => ty_tup W1 v h
  | .lst n, h => ty_lst W1 v h
  | .dct, h => ty_dct W1 v h
def Odd.isI : Odd → Bool
  | .int _ => true | .bl _ => true | _ => false
def Odd.isB : Odd → Bool
  | .bl _ => true | _ => false
theorem odd_kitI : ∀ o : Odd, kitB o.cls "int" = some o.isI
  | .int _ => (by decide +kernel : kitB "int" "int" = some true)
  | .bl _ => (by decide +kernel : kitB "bool" "int" = some true)
  | .non => (by decide +kernel : kitB "NoneType" "int" = some false)
  | .str _ => (by decide +kernel : kitB "str" "int" = some false)
  | .tup _ => (by decide +kernel : kitB "tuple" "int" = some false)
  | .lst _ => (by decide +kernel : kitB "list" "int" = some false)
  | .dct => (by decide +kernel : kitB "dict" "int" = some false)
theorem odd_kitB : ∀ o : Odd, kitB o.cls "bool" = some o.isB
  | .int _ => (by decide +kernel : kitB "int" "bool" = some false)
  | .bl _ => (by decide +kernel : kitB "bool" "bool" = some true)
  | .non => (by decide +kernel : kitB "NoneType" "bool" = some false)
  | .str _ => (by decide +kernel : kitB "str" "bool" = some false)
  | .tup _ => (by decide +kernel : kitB "tuple" "bool" = some false)
  | .lst _ => (by decide +kernel : kitB "list" "bool" = some false)
  | .dct => (by decide +kernel : kitB "dict" "bool" = some false)
section
variable {α β γ δ : Type} [Py α] [Py β] [Py γ] [Py δ] {K : Fg} {W W' : Wd} {σ : SS} {ε : Ef} {te ta tb tc td : TE}
theorem ev_oI {n : Int} (h : EvR ε K te σ W n) : EvR ε K te σ W (Odd.int n) := h
theorem ev_oB {n : Bool} (h : EvR ε K te σ W n) : EvR ε K te σ W (Odd.bl n) := h
theorem ev_oN (h : EvR ε K te σ W ()) : EvR ε K te σ W Odd.non := h
theorem ev_oS {n : Str} (h : EvR ε K te σ W n) : EvR ε K te σ W (Odd.str n) := h
theorem ev_oT {n : List Int} (h : EvR ε K te σ W (Tup.mk n)) : EvR ε K te σ W (Odd.tup n) := h
theorem ev_oL {n : List Int} (h : EvR ε K te σ W n) : EvR ε K te σ W (Odd.lst n) := h
theorem ev_oD (h : EvD ε K te σ W (⟨[]⟩ : Dict Int Int)) : EvR ε K te σ W Odd.dct := h.rep
/-- [:2] and [2:] of a tuple of four -/
theorem ev_slQa {p : T4 α β γ δ} (h : EvR ε K te σ W p) : EvR ε K (tSl (rSlA K) te tNoPart (tPart (tC (.int 2)))) σ W (p.a, p.b) := fun W1 g1 Q k => h W1 g1 _ fun v W2 g2 ⟨a, x, y, z, w, e, s, r1, r2, r3, r4⟩ =>
  ⟨2, rfl, a, [x, y, z, w], e, SqT.of (W2.sub.et s), fun h0 => absurd h0.2 (by show ¬ (min 2 4 = 4); decide), fun _ p hp => k _ (W2.add p (.tup [x, y])) (g2.and (W2.grow_add hp)) ⟨p, x, y, rfl, upd_same, rep_g (W2.grow_add hp) r1, rep_g (W2.grow_add hp) r2⟩⟩
theorem ev_slQb {p : T4 α β γ δ} (h : EvR ε K te σ W p) : EvR ε K (tSl (rSlA K) te (tPart (tC (.int 2))) tNoPart) σ W (p.c, p.d) := fun W1 g1 Q k => h W1 g1 _ fun v W2 g2 ⟨a, x, y, z, w, e, s, r1, r2, r3, r4⟩ =>
  ⟨2, rfl, a, [x, y, z, w], e, SqT.of (W2.sub.et s), fun h0 => absurd h0.1 (by show ¬ (min 2 4 = 0); decide), fun _ p hp => k _ (W2.add p (.tup [z, w])) (g2.and (W2.grow_add hp)) ⟨p, z, w, rfl, upd_same, rep_g (W2.grow_add hp) r3, rep_g (W2.grow_add hp) r4⟩⟩
theorem rc_min {xs : List Int} {m : Int} (h1 : m ∈ xs) (h2 : ∀ y ∈ xs, m ≤ y) : RC1 K (rMin K) xs m := fun v W1 ⟨a, vs, e, s, r⟩ Q k => ⟨a, xs, by rw [e], by rw [← reps_int r]; exact SqL.of (W1.sub.el s), List.length_pos_of_mem h1, fun m' h3 h4 => by
  have : m' = m := Int.le_antisymm (h4 m h1) (h2 m' h3)
  rw [this]
  exact k _ W1 (.refl _ _) rfl⟩
end
end B
/-! BY: a set made of a list, by what its filling promises -/
namespace BY
open PySem PySem.Spec PyProof.Rows L2
section
variable {P : Program} {w : World} {A : Around} {E : Value → Shared → Prop} {s : Shared}
abbrev set0 (w : World) : Obj := { cls := .type "set", dict := none, data := .set #[] 0 (.fresh 0 0 (!w.params.followText "set-order")) }
abbrev it0 (l : Addr) : Obj := { cls := .type "list_iterator", data := .fields #[.ref l, .int 0 0] }
set_option maxHeartbeats 8000000 in
theorem set_of_list {l : Addr} {items : Array Value} {Q : Value → Shared → Prop} {Pz : Heap → Nat → Prop} (hl : s.heap.IsList l items)
    (hloop : ∀ R : Result → Shared → Prop, (∀ h' tk, Pz h' tk → R (.ok (.ret .none)) { s with heap := h', toks := tk }) →
      codeAny (model P w) A.in1.in1 (.builtin "set.update.loop" ⟨[.ref s.heap.objs.size, .ref (s.heap.push (set0 w)).objs.size], []⟩) R { s with heap := (s.heap.push (set0 w)).push (it0 l) })
    (h : ∀ h' tk, Pz h' tk → Q (.ref s.heap.objs.size) { s with heap := h', toks := tk }) : wpAny (model P w) A (call (.type "set") [.ref l]) Q E s := by
  obtain ⟨c, tl, hmro⟩ := F.called_set.mro
  have i1 := F.called_set.made
  have i2 := F.called_set.sub
  have i3 := F.called_set.notType
  have i4 := F.called_set.canCreate
  have i5 := F.typeCall_set_1 (.ref l)
  refine wpAny_call (codeAny_of_tree ?_)
  show wpAny _ _ (callAny (.type "set") _) _ _ _
  refine wpAny_pure ⟨Code.quiet_builtin _ (by decide +kernel), codeAny_builtin F.entry_type_call ?_⟩
  rw [Around.under_plain (weight_type_call_type "set" [.ref l] []) rfl]
  repeat (any_goals (first | assumption | wp_step))
  refine codeAny_mono (code_set_led1 (.ref l) (E := E) (Q₁ := fun x t => x = .ref s.heap.objs.size ∧ t = { s with heap := s.heap.push (set0 w) }) ⟨rfl, rfl⟩) fun r t hr => ?_
  match r, hr with
  | .error e, hr => exact hr
  | .ok .next, hr => exact hr.elim
  | .ok .brk, hr => exact hr.elim
  | .ok .cont, hr => exact hr.elim
  | .ok (.ret x), hr =>
    obtain ⟨rfl, rfl⟩ := hr
    have at0 : (s.heap.push (set0 w)).get? s.heap.objs.size = some (set0 w) := Heap.get?_push_size _ rfl
    have ty0 : Shared.TypeIs { s with heap := s.heap.push (set0 w) } (.ref s.heap.objs.size) "set" := ⟨_, at0, rfl⟩
    have j1 := F.called_set.init.lookup
    have j2 := F.called_set.init.bind (.ref s.heap.objs.size)
    repeat (any_goals (first | assumption | wp_step))
    refine codeAny_mono (codeAny_call_builtin (R := wants (fun r t => r = .none ∧ ∃ h' tk, t = { s with heap := h', toks := tk } ∧ Pz h' tk) E) F.called_set.init.plain F.entry_set_init (check_set_init_1 ty0 ?_)) fun r t hr => ?_
    · obtain ⟨⟨oc, od, oda, osl⟩, ho, hc, ne, hd⟩ := hl
      simp only at hc hd
      subst hc
      subst hd
      have ho' : (s.heap.push (set0 w)).get? l = some { cls := .type "list", dict := od, data := .seq items ne, slots := osl } := Heap.get?_push_of_some _ ho
      have k1 := F.sub_list_set
      have k2 := F.sub_list_frozenset
      have k3 : (Value.type "list" == Value.type "dict") = false := by decide
      have il : (s.heap.push (set0 w)).IsList l items := ⟨_, ho', rfl, ne, rfl⟩
      unfold Builtin.«set.__init__» noKeywords Builtin.Frozenset.updateFrom
      generalize hPI : pyIter = PI
      wp_walk
      subst hPI
      refine wpAny_pyIter_list il (wpAny_bind (wpAny_runValue (hloop _ fun h' tk q => ?_)))
      show wpAny _ _ _ _ _ _
      refine wpAny_pure ?_
      show wpAny _ _ (ret Value.none) _ _ _
      exact wpAny_pure ⟨rfl, h', tk, rfl, q⟩
    · match r, hr with
      | .error e, hr => exact hr
      | .ok .next, hr => exact hr.elim
      | .ok .brk, hr => exact hr.elim
      | .ok .cont, hr => exact hr.elim
      | .ok (.ret x), hr =>
        obtain ⟨rfl, h', tk, rfl, q⟩ := hr
        repeat (any_goals (first | assumption | wp_step))
        exact h _ _ q
/-- set(xs), a list of ints -/
theorem set_listI {l : Addr} {items : Array Value} {ns : List Int} {Q : Value → Shared → Prop} (hh : A.handled = none) (hl : s.heap.IsList l items) (hit : IntsAre items.toList ns) (hb : ns.length + 1 < scanBound)
    (h : ∀ (h' : Heap) (tk c : Nat), SetR w h' s.heap.objs.size (fun j => decide (j ∈ ns)) c → c ≤ ns.length → (∀ b o, s.heap.get? b = some o → h'.get? b = some o) → Q (.ref s.heap.objs.size) { s with heap := h', toks := tk }) :
    wpAny (model P w) A (call (.type "set") [.ref l]) Q E s := by
  have hn : items.size = ns.length := by
    have := IntsAre.length hit
    rwa [Array.length_toList] at this
  have lt : l < s.heap.objs.size := by
    obtain ⟨o, ho, _⟩ := hl
    exact Heap.lt_size ho
  have sz : (s.heap.push (set0 w)).objs.size = s.heap.objs.size + 1 := Heap.size_push ..
  have at0 : (s.heap.push (set0 w)).get? s.heap.objs.size = some (set0 w) := Heap.get?_push_size _ rfl
  refine set_of_list (Pz := fun h' tk => ∃ c, SetR w h' s.heap.objs.size (fun j => decide (j ∈ ns)) c ∧ c ≤ ns.length ∧ ∀ b o, s.heap.get? b = some o → h'.get? b = some o) hl (fun R k => ?_) fun h' tk ⟨c, q1, q2, q3⟩ => h h' tk c q1 q2 q3
  have il : (s.heap.push (set0 w)).IsList l items := hl.push _
  refine set_update_ints ((Walks.list (by simp [hh]) (s.heap.push (set0 w)).objs.size l (by rw [sz]; exact Nat.ne_of_lt (Nat.lt_succ_of_lt lt)) items).toS) s.heap.objs.size (by rw [sz]; simp only [List.mem_cons, List.not_mem_nil, or_false, not_or]; exact ⟨Nat.ne_of_lt (Nat.lt_succ_self _), Nat.ne_of_gt lt⟩) ns hn hb (fun i v hv => ?_) items.size 0 _ (by omega) (Nat.zero_le _)
    ⟨⟨_, Heap.get?_push_size _ rfl, rfl, rfl⟩, il.push _⟩ ⟨0, Nat.le_refl _, setR_new_at (Heap.get?_push_of_some _ at0)⟩ fun s' c m hc hS => ?_
  · have hi : i < ns.length := by rw [← hn]; exact (Array.getElem?_eq_some_iff.mp hv).1
    obtain ⟨t, e⟩ := PyProof.Rows.IntsAre.int_at hit i v (by rw [Array.getElem?_toList]; exact hv)
    refine ⟨ns[i], t, List.getElem?_eq_getElem hi, ?_⟩
    rw [e, List.getD_eq_getElem?_getD, List.getElem?_eq_getElem hi]
    rfl
  · obtain ⟨h', g', d', tk', os'⟩ := s'
    obtain rfl : g' = s.gens := m.gens
    obtain rfl : d' = s.drawn := m.drawn
    obtain rfl : os' = s.os := m.os
    refine k h' tk' ⟨c, hS, by rw [← hn]; exact hc, fun b o e => ?_⟩
    have hb0 := Heap.lt_size e
    exact m.heap b o (by rw [sz]; simp only [List.mem_cons, List.not_mem_nil, or_false, not_or]; exact ⟨Nat.ne_of_lt hb0, Nat.ne_of_lt (Nat.lt_succ_of_lt hb0)⟩) (Heap.get?_push_of_some _ (Heap.get?_push_of_some _ e))
end
section
variable {X : Cx} {tg : Expr}
/-- sorted(set(xs)), a list of ints -/
def tSortSetL (K : PySem.W.Frag) (ta : TE) : TE := fun σ H Q => ta σ H fun x H1 => ∃ (l : Addr) (ns : List Int), x = .ref l ∧ SqL K H1 l (ns.map V.int) ∧ ns.length ≤ 4000 ∧
  ∀ (ns' : List Int) (p : Addr), ns'.Pairwise (· < ·) → (∀ k, k ∈ ns' ↔ k ∈ ns) → H1 p = none → Q (.ref p) (upd H1 p (.lst (ns'.map V.int)))
theorem pe_sortSetL {a : Expr} {ta : TE} {p p2 q pos : Pos} (hg : Gl X "sorted") (hm : X.mg "sorted" = none) (hg2 : Gl X "set") (hm2 : X.mg "set" = none) (ha : PE X a ta) (hc : X.calm = true := by rfl)
    (na : starEach [a] X.env = (false, eval a X.env) :: starEach [] X.env := by rfl) : PE X (.Call (.Name "sorted" p) [.Call (.Name "set" p2) [a] [] q] [] pos) (tSortSetL X.K ta) := by
  refine ⟨fun pins s σ H Q I h => ?_⟩
  refine Call_ (ld_blt I hg hm (show bootBuiltins "sorted" = some (.builtin "sorted") by decide +kernel) ?_)
  refine PyProof.Rows.callWith_builtin1 (PyProof.Rows.args_cons ?_ rfl) rfl rfl
  refine Call_ (ld_blt I hg2 hm2 boot_set ?_)
  refine PyProof.Rows.callWith_type1 (PyProof.Rows.args_cons (thn (ha.run pins s σ H _ I h) fun v s1 ⟨x, H1, I1, r1, q1⟩ => PyProof.Rows.args_nil ?_) na) na rfl
  obtain ⟨l, ns, rfl, hq, hl, q1⟩ := q1
  cases r1
  obtain ⟨its, r, pl, hz⟩ := I1.list hq
  refine set_listI (I1.ok.hd hc) (items := its.toArray) pl.isList (by simpa using r.ints) (by unfold scanBound; omega) fun h' tk c hS hc' hk => ?_
  refine PyProof.Rows.args_nil ?_
  exact set_sorted (I1.kept hk) hS (by omega) hc q1
/-- enumerate of a row that is a list or a tuple -/
def iEnumSeq (K : PySem.W.Frag) (ta : TA) : TI := fun σ H R => (iEnum K ta σ H R) ∨ (B.iEnumT K ta σ H R)
theorem pi_enumSeq {e : Expr} {ta : TA} {p pos tpos : Pos} {elts : List Expr} {kk : Nat} (hg : Gl X "enumerate") (hm : X.mg "enumerate" = none) (ha : PA X [e] ta) (hs : starEach [e] X.env = [(false, eval e X.env)] := by rfl) :
    PI X (.Tuple elts kk tpos) (.Call (.Name "enumerate" p) [e] [] pos) (iEnumSeq X.K ta) := by
  refine ⟨fun pins s σ H R I h => ?_⟩
  rcases h with h | h
  · exact (pi_enum hg hm ha hs).run pins s σ H R I h
  · exact (B.pi_enumT hg hm ha hs).run pins s σ H R I h
end
end BY
/-! B: values of which something is known, not all (what draws make) -/
namespace B
open PySem L2
open PySem.W (Tup T3 T4 Datum DatumOrd)
open Evl (Ex)
/-- the expression gives some x of which P tells -/
def EvX {α : Type} [Py α] (ε : Ef) (K : Fg) (te : TE) (σ : SS) (W : Wd) (P : α → Prop) : Prop := EvP ε te σ W (fun v W' => ∃ x : α, P x ∧ rep K W'.B v x)
def EvAsX {α : Type} [Py α] (ε : Ef) (K : Fg) (ta : TA) (σ : SS) (W : Wd) (n : Nat) (P : α → Prop) : Prop :=
  ∀ W1, Stp ε W W1 → ∀ Q : List V → Hp → Prop, (∀ vs W2 (xs : List α), Stp ε W1 W2 → Reps K W2.B vs xs → xs.length = n → (∀ x ∈ xs, P x) → Q vs W2.H) → ta σ W1.H Q
section
variable {α β γ : Type} [Py α] [Py β] [Py γ] {K : Fg} {σ : SS} {W : Wd} {ε : Ef} {te ta tb : TE} {tr : TA} {tt : TT} {P P' : α → Prop} {R : β → Prop} {S : γ → Prop}
theorem ex_of {x : α} (h : EvR ε K te σ W x) (p : P x) : EvX ε K te σ W P := fun W1 g1 Q k => h W1 g1 _ fun v W2 g2 r => k v W2 g2 ⟨x, p, r⟩
theorem EvX.imp (h : EvX ε K te σ W P) (i : ∀ x, P x → P' x) : EvX ε K te σ W P' := fun W1 g1 Q k => h W1 g1 _ fun v W2 g2 ⟨x, p, r⟩ => k v W2 g2 ⟨x, i x p, r⟩
theorem ex_op {r : R2} (ha : EvX ε K ta σ W P) (hb : EvX ε K tb σ W R) (ho : ∀ x y, P x → R y → ∃ z, S z ∧ RO K r x y z) : EvX ε K (tOp r ta tb) σ W S := fun W1 g1 Q k =>
  ha W1 g1 _ fun v W2 g2 ⟨x, px, rx⟩ => hb W2 (g1.trans g2) _ fun u W3 g3 ⟨y, py, ry⟩ => by
    obtain ⟨z, sz, o⟩ := ho x y px py
    exact o v u W3 (rep_s g3 rx) ry Q fun w W4 g4 rw => k w W4 (g2.trans (g3.and g4)) ⟨z, sz, rw⟩
theorem ex_cb1 {r : List V → Hp → VK → Prop} (ha : EvX ε K ta σ W P) (ho : ∀ x, P x → ∃ y, R y ∧ RC1 K r x y) : EvX ε K (tCB r (tCons ta tNil)) σ W R := fun W1 g1 Q k =>
  ha W1 g1 _ fun v W2 g2 ⟨x, px, rx⟩ => by
    obtain ⟨y, sy, o⟩ := ho x px
    exact o v W2 rx Q fun w W4 g4 rw => k w W4 (g2.and g4) ⟨y, sy, rw⟩
theorem ex_if {b : Bool} (h : EvT ε tt σ W b) (h1 : b = true → EvX ε K ta σ W P) (h2 : b = false → EvX ε K tb σ W P) : EvX ε K (tIf tt ta tb) σ W P := fun W1 g1 Q k => h W1 g1 _ fun W2 g2 => by
  cases b with
  | true => exact h1 rfl W2 (g1.trans g2) _ fun v W3 g3 r => k v W3 (g2.trans g3) r
  | false => exact h2 rfl W2 (g1.trans g2) _ fun v W3 g3 r => k v W3 (g2.trans g3) r
theorem exa_nil : EvAsX ε K tNil σ W 0 P := fun W1 g1 Q k => k [] W1 [] g1.rf .nil rfl (fun x h => by cases h)
theorem exa_cons {n : Nat} (h : EvX ε K te σ W P) (hr : EvAsX ε K tr σ W n P) : EvAsX ε K (tCons te tr) σ W (n + 1) P := fun W1 g1 Q k =>
  h W1 g1 _ fun v W2 g2 ⟨x, px, rx⟩ => hr W2 (g1.trans g2) _ fun vs W3 xs g3 rs hl hp => k (v :: vs) W3 (x :: xs) (g2.trans g3) (.cons (rep_s g3 rx) rs) (by rw [List.length_cons, hl]) (fun y hy => by
    rcases List.mem_cons.mp hy with e | e
    · rw [e]; exact px
    · exact hp y e)
theorem ex_lst {n : Nat} {ta : TA} (h : EvAsX ε K ta σ W n P) (hl : n ≤ 100000) : EvX ε K (tLst ta) σ W (fun xs : List α => xs.length = n ∧ ∀ x ∈ xs, P x) := fun W1 g1 Q k =>
  h W1 g1 _ fun vs W2 xs g2 rs hn hp => ⟨Evl.sz_of (by rw [Reps.len rs, hn]; exact hl), fun p hq => k _ (W2.add p (.lst vs)) (g2.and (W2.grow_add hq)) ⟨xs, ⟨hn, hp⟩, p, vs, rfl, upd_same, Reps.mono (exExt (W2.grow_add hq).b) rs⟩⟩
/-- an item at a drawn place -/
theorem ep_ixD {xs : List α} (h : EvR ε K ta σ W xs) (hi : EvP ε tb σ W (fun v _ => ∃ r, v = .int r ∧ 0 ≤ r ∧ r < (xs.length : Int))) : EvX ε K (tOp (rIxL K) ta tb) σ W (fun y => y ∈ xs) := fun W1 g1 Q k =>
  h W1 g1 _ fun a W2 g2 ra => hi W2 (g1.trans g2) _ fun u W3 g3 ⟨r, e, h0, h1⟩ => by
    obtain ⟨j, hj⟩ : ∃ j : Nat, r = (j : Int) := ⟨r.toNat, by omega⟩
    have hjl : j < xs.length := by omega
    exact ro_ixL (K := K) (x := xs[j]) (i := r) (by rw [hj]; exact atI_nat (List.getElem?_eq_getElem hjl)) a u W3 (rep_s g3 ra) e Q fun w W4 g4 rw => k w W4 (g2.trans (g3.and g4)) ⟨xs[j], List.getElem_mem _, rw⟩
theorem EvP.imp {P R : V → Wd → Prop} (h : EvP ε te σ W P) (i : ∀ v W, P v W → R v W) : EvP ε te σ W R := fun W1 g1 Q k => h W1 g1 _ fun v W2 g2 p => k v W2 g2 (i _ _ p)
theorem ex_sortSetL {n : Nat} (h : EvX ε K te σ W (fun xs : List Int => xs.length ≤ n)) (hn : n ≤ 4000) : EvX ε K (BY.tSortSetL K te) σ W (fun xs : List Int => xs.length ≤ n) := fun W1 g1 Q k => h W1 g1 _ fun v W2 g2 ⟨xs, hx, a, vs, e, s, r⟩ => by
  have e2 := reps_int r
  subst e2
  refine ⟨a, xs, e, SqL.of (W2.sub.el s), by omega, fun ns p hs hm hq => k _ (W2.add p _) (g2.and (W2.grow_add hq)) ⟨ns, ?_, p, _, rfl, upd_same, int_reps _⟩⟩
  have := nodup_le (hs.imp fun h e => by omega) (m := xs) fun k hk => (hm k).mp hk
  omega
end
end B
/-! BY: sets of keys of any kind, filled; len(set(list of texts)) -/
namespace BY
open PySem PySem.Spec PyProof.Rows L2
section
variable {P : Program} {w : World} {A : Around} {E : Value → Shared → Prop} {s : Shared} {κ : Type} [DecidableEq κ]
def inK (ks : List κ) (j : κ) : Bool := decide (j ∈ ks)
theorem fill_keys {knd : PySem.KeyKind P w κ} {I : Addr} {fp wr : List Addr} {G : Array GenState → Array GenState → Prop} {n : Nat} {Pv : Nat → Value → Prop} {St : Nat → Shared → Prop} {R : Result → Shared → Prop}
    (W : WalksS P w A.in1 I fp wr G n Pv St) {S : Addr} (hSf : S ∉ fp) {ks : List κ} (hn : n = ks.length) (hb : ks.length + 1 < scanBound) (hval : ∀ i v, Pv i v → ∃ k, ks[i]? = some k ∧ knd.is k v = true ∧ v.scannable = true) (hnd : ks.Nodup) :
    ∀ (m i : Nat) (s : Shared), n - i = m → i ≤ n → St i s → s.heap.SetOf knd S (inK (ks.take i)) i →
      (∀ s', Moved (S :: wr) G s s' → s'.heap.SetOf knd S (inK ks) n → R (.ok (.ret .none)) s') → codeAny (model P w) A (.builtin "set.update.loop" ⟨[.ref S, .ref I], []⟩) R s
  | 0, i, s, hm, hi, st, h, k => by
    obtain rfl : i = n := by omega
    have e : ks.take i = ks := List.take_of_length_le (by omega)
    rw [e] at h
    refine codeAny_builtin F.entry_set_update_loop ?_
    rw [Around.under_plainId F.plain_set_update_loop _]
    show wpAny _ A.in1 (pyNext (.ref I) >>= _) _ _ s
    refine wpAny_bind (W.done s _ _ st fun s' mv => ?_)
    have ne : S ∉ wr := fun z => hSf (W.sub _ z)
    obtain ⟨o, es, ep, t, ho, r⟩ := h
    exact wpAny_pure (k s' (mv.mono fun b hb => List.mem_cons_of_mem _ hb) ⟨o, es, ep, t, mv.heap S o ne ho, r⟩)
  | m + 1, i, s, hm, hi, st, h, k => by
    have hlt : i < n := by omega
    have ne : S ∉ wr := fun z => hSf (W.sub _ z)
    refine codeAny_builtin F.entry_set_update_loop ?_
    rw [Around.under_plainId F.plain_set_update_loop _]
    show wpAny _ A.in1 (pyNext (.ref I) >>= _) _ _ s
    refine wpAny_bind (W.item i s _ _ hlt st fun v s' pv st' mv => ?_)
    obtain ⟨x, hx, is, sc⟩ := hval i v pv
    have h' : s'.heap.SetOf knd S (inK (ks.take i)) i := by
      obtain ⟨o, es, ep, t, ho, r⟩ := h
      exact ⟨o, es, ep, t, mv.heap S o ne ho, r⟩
    have hni : x ∉ ks.take i := fun z => by
      obtain ⟨j, hj, e⟩ := List.mem_take_iff_getElem.mp z
      obtain ⟨hi', e2⟩ := List.getElem?_eq_some_iff.mp hx
      exact List.pairwise_iff_getElem.mp hnd j i (by omega) hi' (by omega) (e.trans e2.symm)
    show wpAny _ A.in1 (holding [v] (setAdd S v) >>= _) _ _ s'
    refine wpAny_bind (wpAny_holding ?_)
    unfold setAdd
    refine wpAny_holding (wpAny_bind (knd.pyHash is ?_))
    refine wpAny_setAddHashed_of (s := { s' with toks := s'.toks + 1 }) is sc h' (by omega) fun h2 sb new => ?_
    have new2 : h2.SetOf knd S (inK (ks.take (i + 1))) (i + 1) := by
      rw [if_neg (by unfold inK; rw [decide_eq_true_eq]; exact hni)] at new
      have e : (fun j => inK (ks.take i) j || decide (j = x)) = inK (ks.take (i + 1)) := by
        funext j
        unfold inK
        rw [List.take_add_one, hx]
        simp [List.mem_append]
      rwa [e] at new
    refine wpAny_pure ⟨plainId_quiet F.plain_set_update_loop _, fill_keys W hSf hn hb hval hnd m (i + 1) _ (by omega) hlt (W.frame _ s' _ _ st' (Nat.le_succ _) fun b hb o e => ?_) new2 fun s2 mv2 q => ?_⟩
    · rw [sb.2 b (fun z : b = S => hSf (by rw [← z]; exact hb))]
      exact e
    · refine k s2 (Moved.trans W.gtrans ((mv.mono fun b hb => List.mem_cons_of_mem _ hb).then_heap (Nat.le_succ _) fun b o hb e => ?_) mv2) q
      rw [sb.2 b (fun z => hb (by rw [z]; exact List.mem_cons_self))]
      exact e
/-- texts as keys -/
def keysS (xs : List Str) : List Key := xs.map fun x => Sum.inr x
/-- set(xs), a list of unlike texts -/
theorem set_listS {l : Addr} {its : List Value} {xs : List Str} {Q : Value → Shared → Prop} (hh : A.handled = none) (hl : s.heap.IsList l its.toArray) (r : Vals (xs.map V.str) its) (hb : xs.length + 1 < scanBound) (hnd : xs.Nodup)
    (h : ∀ (h' : Heap) (tk : Nat), h'.SetOf (mixKind P w) s.heap.objs.size (inK (keysS xs)) xs.length → (∀ b o, s.heap.get? b = some o → h'.get? b = some o) → Q (.ref s.heap.objs.size) { s with heap := h', toks := tk }) :
    wpAny (model P w) A (call (.type "set") [.ref l]) Q E s := by
  have hn : its.toArray.size = (keysS xs).length := by
    have := r.length
    rw [List.length_map] at this
    unfold keysS
    rw [List.size_toArray, List.length_map]
    exact this.symm
  have hn' : its.toArray.size = xs.length := by rw [hn]; unfold keysS; rw [List.length_map]
  have lt : l < s.heap.objs.size := by
    obtain ⟨o, ho, _⟩ := hl
    exact Heap.lt_size ho
  have sz : (s.heap.push (set0 w)).objs.size = s.heap.objs.size + 1 := Heap.size_push ..
  have at0 : (s.heap.push (set0 w)).get? s.heap.objs.size = some (set0 w) := Heap.get?_push_size _ rfl
  refine set_of_list (Pz := fun h' tk => h'.SetOf (mixKind P w) s.heap.objs.size (inK (keysS xs)) xs.length ∧ ∀ b o, s.heap.get? b = some o → h'.get? b = some o) hl (fun R k => ?_) fun h' tk ⟨q1, q2⟩ => h h' tk q1 q2
  have il : (s.heap.push (set0 w)).IsList l its.toArray := hl.push _
  refine fill_keys (knd := mixKind P w) (ks := keysS xs) ((Walks.list (by simp [hh]) (s.heap.push (set0 w)).objs.size l (by rw [sz]; exact Nat.ne_of_lt (Nat.lt_succ_of_lt lt)) its.toArray).toS) (by rw [sz]; simp only [List.mem_cons, List.not_mem_nil, or_false, not_or]; exact ⟨Nat.ne_of_lt (Nat.lt_succ_self _), Nat.ne_of_gt lt⟩) hn (by unfold keysS; rw [List.length_map]; exact hb) (fun i v hv => ?_)
    (by unfold keysS; exact List.pairwise_map.mpr (hnd.imp fun ne e => ne (Sum.inr.inj e))) its.toArray.size 0 _ (by omega) (Nat.zero_le _)
    ⟨⟨_, Heap.get?_push_size _ rfl, rfl, rfl⟩, il.push _⟩ ⟨_, #[], 0, _, Heap.get?_push_of_some _ at0, ⟨rfl, rfl, rfl⟩, rfl, (fun e he => by simp at he), (fun k => by simp [inK]), (by decide), (by rfl), rfl⟩ fun s' m hS => ?_
  · have hv' : its[i]? = some v := by simpa using hv
    have hi : i < xs.length := by
      have := (List.getElem?_eq_some_iff.mp hv').1
      rw [← hn', List.size_toArray]
      exact this
    obtain ⟨u, hu, ru⟩ := r.get (i := i) (x := V.str xs[i]) (by rw [List.getElem?_map, List.getElem?_eq_getElem hi]; rfl)
    rw [hv'] at hu
    cases hu
    have rk : RelV (kV (Sum.inr xs[i])) v := ru
    exact ⟨Sum.inr xs[i], by unfold keysS; rw [List.getElem?_map, List.getElem?_eq_getElem hi]; rfl, kV_is rk, key_scan rk⟩
  · obtain ⟨h', g', d', tk', os'⟩ := s'
    obtain rfl : g' = s.gens := m.gens
    obtain rfl : d' = s.drawn := m.drawn
    obtain rfl : os' = s.os := m.os
    refine k h' tk' ⟨by rw [← hn']; exact hS, fun b o e => ?_⟩
    have hb0 := Heap.lt_size e
    exact m.heap b o (by rw [sz]; simp only [List.mem_cons, List.not_mem_nil, or_false, not_or]; exact ⟨Nat.ne_of_lt hb0, Nat.ne_of_lt (Nat.lt_succ_of_lt hb0)⟩) (Heap.get?_push_of_some _ (Heap.get?_push_of_some _ e))
end
section
variable {X : Cx}
/-- len(set(xs)), a list of unlike texts -/
def tLenSetS (K : PySem.W.Frag) (ta : TE) : TE := fun σ H Q => ta σ H fun x H1 => ∃ (l : Addr) (xs : List Str), x = .ref l ∧ SqL K H1 l (xs.map V.str) ∧ xs.Nodup ∧ xs.length ≤ 4000 ∧ Q (.int (xs.length : Nat)) H1
theorem pe_lenSetS {a : Expr} {ta : TE} {p p2 q pos : Pos} (hg : Gl X "len") (hm : X.mg "len" = none) (hg2 : Gl X "set") (hm2 : X.mg "set" = none) (ha : PE X a ta) (hc : X.calm = true := by rfl)
    (na : starEach [a] X.env = (false, eval a X.env) :: starEach [] X.env := by rfl) : PE X (.Call (.Name "len" p) [.Call (.Name "set" p2) [a] [] q] [] pos) (tLenSetS X.K ta) := by
  refine ⟨fun pins s σ H Q I h => ?_⟩
  refine Call_ (ld_blt I hg hm boot_len ?_)
  refine PyProof.Rows.callWith_builtin1 (PyProof.Rows.args_cons ?_ rfl) rfl rfl
  refine Call_ (ld_blt I hg2 hm2 boot_set ?_)
  refine PyProof.Rows.callWith_type1 (PyProof.Rows.args_cons (thn (ha.run pins s σ H _ I h) fun v s1 ⟨x, H1, I1, r1, q1⟩ => PyProof.Rows.args_nil ?_) na) na rfl
  obtain ⟨l, xs, rfl, hq, hnd, hl, q1⟩ := q1
  cases r1
  obtain ⟨its, r, pl, hz⟩ := I1.list hq
  refine set_listS (I1.ok.hd hc) pl.isList r (by unfold scanBound; omega) hnd fun h' tk hS hk => ?_
  refine PyProof.Rows.args_nil ?_
  obtain ⟨o, es, ep, t, ho, hex, hd, _, _, _, hf, hn⟩ := hS
  have I2 : Inv X pins σ H1 { s1 with heap := h', toks := tk } := I1.kept hk
  exact call_len_set ho hex hd hf (by rw [hn] <;> omega) ⟨.int (xs.length : Nat), H1, I2.tok _, ⟨_, by rw [hn]⟩, q1⟩
end
end BY
/-! B: != of own instances by their own == -/
namespace B
open PySem L2 PySem.Spec PyProof.Rows
section
variable {prog : Program} {w : World} {A : Around} {E : Value → Shared → Prop} {s : Shared} {K : Fg} {x y C L f : Addr} {h₀ : Heap} {m : Str → Option Value} {ox : Obj} {od : Option Obj}
theorem ne_body {Q : PySem.Fin → Shared → Prop} (X : K.In s.heap) (I : PySem.W.InstAt s.heap x ox C od) (hs : PySem.W.findIn K (.ref C) "__eq__" = some (some (.ref f))) (hf : PySem.W.isFn K (.ref f) = true) (hu : A.units < cLine)
    (h : wpAny (model prog w) A (call (.ref f) [.ref x, .ref y]) (fun v s' => ∃ b, v = .bool b ∧ Q (.done (.ret (.bool (!b)))) s') E s) : wpAny (model prog w) A (Builtin.«object.__ne__» ⟨[.ref x, .ref y], []⟩) Q E s := by
  unfold Builtin.«object.__ne__»
  repeat (first
    | with_reducible refine wpAny_cRoomFor hu ?_
    | (refine wpAny_bind (m := callSpecialIfBound? (.ref x) (Str.ofString "__eq__") [.ref y]) (PySem.W.ifBound_K X I hs hf (wpAny_mono h (fun v s' hv => ?_) fun _ _ e => e)))
    | wp_step)
  obtain ⟨b, rfl, q⟩ := hv
  repeat (first | exact q | exact wpAny_pure q | exact wpAny_truthy_bool q | (refine wpAny_bind (m := truthy (.bool _)) (wpAny_truthy_bool ?_)) | wp_step)
theorem ne_bound {M : Model} {args : List Value} {Q : Option Value → Shared → Prop} (X : K.In s.heap) (I : PySem.W.InstAt s.heap x ox C od) (hs : PySem.W.findIn K (.ref C) "__ne__" = some (some (.builtin "object.__ne__")))
    (h : wpAny M A (call (.builtin "object.__ne__") (.ref x :: args)) (fun v => Q (some v)) E s) : wpAny M A (callSpecialIfBound? (.ref x) "__ne__" args) Q E s := by
  simp only [callSpecialIfBound?, bindSpecialIfBound?]
  refine wpAny_holding (wpAny_bind (wpAny_bind (wpAny_bind (I.type.here ((PySem.W.looks_findIn X hs).here ?_)))))
  refine wpAny_bind (wpAny_askSetting (wpAny_ite ?_))
  have fin : wpAny M A (call (.builtin "object.__ne__") ([.ref x] ++ args) >>= fun v => pure (some v)) Q E s := wpAny_bind (wpAny_mono h (fun v s' h' => wpAny_pure h') fun _ _ h' => h')
  simp only [PySem.F.cmp_object.ne.bind]
  split
  · exact wpAny_bind (wpAny_pure (wpAny_pure fin))
  · exact wpAny_tryCatch (wpAny_bind (wpAny_pure (wpAny_pure fin)))
end
section
variable {X : Cx} {CX : CXT} {k : Nat} {f C : Addr} {fd : FuncData} {ps : List Str} {sp : Sp} {E : XK}
/-- x != y, two instances of the class at C, whose own __eq__ keeps the promise sp -/
def rInsNe (C : Addr) (sp : Sp) (E : XK) : R2 := fun x y H Q => ∃ a b dx dy fs gs, x = .ref a ∧ y = .ref b ∧ H a = some (.ins C dx fs) ∧ H b = some (.ins C dy gs) ∧ sp [x, y] H (fun v H' => ∃ r, v = .bl r ∧ Q (.bl (!r)) H') E
theorem op_insNe (F : FnOk X.prog X.w X.K X.mg X.base CX k f fd ps sp) (hr : Room (k + 1) X.A) (hm : Meth X.K C "__eq__" f) (hn : PySem.W.findIn X.K (.ref C) "__ne__" = some (some (.builtin "object.__ne__")))
    (ho : PySem.W.mroIn X.K C (.type "object") = some true) (hb : Binds X.K fd ps []) (hx : Passes CX X E) : OpR X (compareOp .NotEq) (rInsNe C sp E) := by
  intro pins s σ H x y v u Q I rx ry h
  obtain ⟨a, b, dx, dy, fs, gs, rfl, rfl, ha, hb', q⟩ := h
  cases (show v = Value.ref a from rx)
  cases (show u = Value.ref b from ry)
  obtain ⟨mA, J, _⟩ := ins_get I.hok ha
  obtain ⟨mB, J', _⟩ := ins_get I.hok hb'
  obtain ⟨od, J, _⟩ := J.look
  obtain ⟨od', J', _⟩ := J'.look
  obtain ⟨m, hF⟩ := I.fr
  have XK := I.kIn
  show wpAny (model X.prog X.w) X.A (richCompare .NotEq (.ref a) (.ref b)) (EP X pins σ Q) X.xe s
  have own : wpAny (model X.prog X.w) X.A.in1 (call (.ref f) [.ref a, .ref b]) (fun v s' => ∃ r, v = .bool r ∧ EP X pins σ Q (.bool (!r)) s') X.xe s := by
    have hl := F.len _ _ _ _ q
    have r2 : Vals [V.ref a, V.ref b] [Value.ref a, Value.ref b] := .cons rfl (.cons rfl .nil)
    refine wpAny_call (codeAny_mono (F.run X.A.in1 X.stack s H ⟨[.ref a, .ref b], []⟩ [.ref a, .ref b] [.ref a, .ref b] _ E hr.in1 I.env0.in1 (by
      have := hb s [.ref a, .ref b] I.kIn (by simpa using hl)
      simpa using this) r2 q) fun r s' hq => ?_)
    cases r with
    | error e => exact hx pins σ H s e s' I hq
    | ok fl =>
      cases fl with
      | ret w =>
        obtain ⟨z, H', I', rz, r, rfl, q'⟩ := I.after hq
        cases rz
        exact ⟨r, rfl, .bl (!r), H', I', rfl, q'⟩
      | next => exact False.elim hq
      | brk => exact False.elim hq
      | cont => exact False.elim hq
  have one : wpAny (model X.prog X.w) X.A (tryCompare (.ref a) "__ne__" (.ref b)) (fun r s' => ∃ v, r = some v ∧ EP X pins σ Q v s') X.xe s := by
    unfold tryCompare
    refine wpAny_bind (ne_bound XK J hn (wpAny_call (codeAny_call_builtin PySem.F.cmp_object.ne.plain PySem.F.cmpEntry_ne (@PySem.W.check_slot (model X.prog X.w) _ _ s "object.__ne__" "object" "__ne__" (.ref a) [.ref b] [] _ PySem.F.cmpKind_ne PySem.F.cmpSplit_ne
      (J.type.andThen (PySem.W.looks_mroIn XK ho)) (PySem.F.cmpArgs_ne _ _) ?_))))
    refine ne_body (s := s) XK J hm.at_ hm.fn hr.in1.units0 (wpAny_mono own (fun v s' z => ?_) fun _ _ e => e)
    obtain ⟨r, rfl, z⟩ := z
    refine ⟨r, rfl, ?_⟩
    exact wpAny_pure ⟨_, rfl, z⟩
  unfold richCompare
  simp only [oneThing_ref]
  refine wpAny_holding (wpAny_bind (wpAny_cRoomFor hr.units0 ?_))
  refine wpAny_bind (J.type.here (wpAny_bind (J'.type.here ?_)))
  split
  · rename_i q; simp at q
  · refine wpAny_bind (wpAny_pure ?_)
    simp only [Bool.false_eq_true, if_false]
    refine wpAny_bind (wpAny_mono one (fun r s' z => ?_) fun _ _ e => e)
    obtain ⟨v, rfl, hq⟩ := z
    exact wpAny_pure hq
end
end B
/-! B: min(d.values()), sorted(d.items()) -/
namespace B
open PySem L2 PySem.Spec PyProof.Rows
section
variable {X : Cx}
/-- min(d.values()) -/
def rMinV : List V → Hp → VK → Prop := fun vs H Q => ∃ (v a : Addr) (kvs : List (Key × V)) (is : List Int), vs = [V.ref v] ∧ H v = some (viewHO v a) ∧ H a = some (.dK kvs) ∧ kvs.map (·.2) = is.map V.int ∧ 0 < is.length ∧ ∀ m, m ∈ is → (∀ y ∈ is, m ≤ y) → Q (.int m) H
theorem cr_minV (hc : X.calm = true) : CallR X (.builtin "min") rMinV := by
  intro pins s σ H xs us Q I r h
  obtain ⟨v, a, kvs, is, rfl, hv, ha, hi, hne, q⟩ := h
  obtain rfl := Vals.ref1 r
  obtain ⟨vs, ep, e, dat, hl, _, hval⟩ := view_at I hv ha hi
  refine call_min_walkS ?_
  obtain ⟨oI, St, hit, W, st⟩ := (PySem.W.kdl_values (prog := X.prog) (w := X.w) (knd := mixKind X.prog X.w) (d := a) (r := v) (kvs := vs) (ep := ep)).iter X.A.in1 s (I.ok.hd hc) ⟨⟨_, e, rfl, rfl⟩, dat⟩
  have hv2 : ∀ (i : Nat) (u : Value), (∃ k, vs[i]? = some (k, u)) → ∃ t, u = Value.int (is.getD i 0) t := fun i u hu => by
    obtain ⟨x, t, h1, h2⟩ := hval i u hu
    exact ⟨t, by rw [h2]; show Value.int x t = Value.int (is.getD i 0) t; rw [List.getD_eq_getElem?_getD, h1]; rfl⟩
  refine hit _ _ ⟨s.heap.objs.size, _, _, _, vs.length, _, _, fun i j => decide (is.getD i 0 < is.getD j 0), rfl, W.toS, st, fun b hb => ?_, by rw [hl]; exact hne, CmpOf.ints_lt (fun i => is.getD i 0) hv2, fun u s' hu hm => ?_⟩
  · show b < (s.heap.push oI).objs.size
    rw [Heap.size_push]
    rcases List.mem_cons.mp hb with e' | hb
    · rw [e']; exact Nat.lt_succ_self _
    · rw [List.mem_singleton.mp hb]; exact Nat.lt_succ_of_lt (by obtain ⟨ob, es, ho, _⟩ := id dat; exact Heap.lt_size ho)
  · obtain ⟨t, rfl⟩ := hv2 _ u hu
    have hk : ∀ b o, s.heap.get? b = some o → s'.heap.get? b = some o := fun b o e =>
      hm.heap b o (fun hI => absurd (Heap.lt_size e) (by rw [List.mem_singleton.mp hI]; exact Nat.lt_irrefl _)) (Heap.get?_push_of_some _ e)
    have hb := argBest_lt (fun i => is.getD i 0) (vs.length - 1)
    have hlt : argBest (fun i j => decide (is.getD i 0 < is.getD j 0)) (vs.length - 1) < is.length := by
      have := hb.1
      omega
    rw [Moved.eq_with hm]
    refine ⟨.int _, H, I.kept hk, ⟨t, rfl⟩, q _ ?_ fun y hy => ?_⟩
    · rw [List.getD_eq_getElem?_getD, List.getElem?_eq_getElem hlt, Option.getD_some]; exact List.getElem_mem hlt
    · obtain ⟨i, hi', rfl⟩ := List.getElem_of_mem hy
      have := hb.2 i (by omega)
      simpa [List.getD_eq_getElem?_getD, List.getElem?_eq_getElem hi'] using this
end
/-! ### sorted(d.items()), values ints, keys all texts or all ints -/
def kdat : Key → PyData := Sum.elim PyData.int PyData.str
def kle : Key → Key → Bool
  | .inl i, .inl j => decide (i ≤ j)
  | .inr s, .inr t => decide (s.cps.toList ≤ t.cps.toList)
  | _, _ => false
def ienc (q : Key × Int) : PyData := .tuple [kdat q.1, .int q.2]
def OneKind (ks : List (Key × Int)) : Prop := (∀ q ∈ ks, ∃ x : Str, q.1 = .inr x) ∨ ∀ q ∈ ks, ∃ i : Int, q.1 = .inl i
theorem ienc_le {a b : Key × Int} (h : (∃ x y : Str, a.1 = .inr x ∧ b.1 = .inr y) ∨ ∃ x y : Int, a.1 = .inl x ∧ b.1 = .inl y) (hl : PySem.W.dataLe false ienc a b = true) : kle a.1 b.1 = true := by
  rw [PySem.W.dataLe_eq] at hl
  obtain ⟨a1, a2⟩ := a
  obtain ⟨b1, b2⟩ := b
  rcases h with ⟨x, y, rfl, rfl⟩ | ⟨x, y, rfl, rfl⟩
  · have hl' : (!PySem.W.dataLt (.tuple [.str y, .int b2]) (.tuple [.str x, .int a2])) = true := hl
    rw [PySem.W.dataLt_pair (by simp [PySem.W.alike]) (by simp [PySem.W.alike]), PySem.W.dataLt_str] at hl'
    show decide (x.cps.toList ≤ y.cps.toList) = true
    rw [← PySem.W.not_lt_str]
    by_cases e : y = x
    · subst e; simp
    · have : PyData.eqv (.str y) (.str x) = false := by simp [PyData.eqv, e]
      rw [this] at hl'
      simpa using hl'
  · have hl' : (!PySem.W.dataLt (.tuple [.int y, .int b2]) (.tuple [.int x, .int a2])) = true := hl
    rw [PySem.W.dataLt_pair (by simp [PySem.W.alike]) (by simp [PySem.W.alike])] at hl'
    show decide (x ≤ y) = true
    rw [← PySem.W.not_lt_int]
    by_cases e : y = x
    · subst e; simp
    · have : PyData.eqv (.int y) (.int x) = false := by simp [PyData.eqv, e]
      rw [this, if_neg Bool.false_ne_true, PySem.W.dataLt_int] at hl'
      exact hl'
theorem OneKind.two {ks : List (Key × Int)} (h : OneKind ks) {a b : Key × Int} (ha : a ∈ ks) (hb : b ∈ ks) : (∃ x y : Str, a.1 = .inr x ∧ b.1 = .inr y) ∨ ∃ x y : Int, a.1 = .inl x ∧ b.1 = .inl y := by
  rcases h with h | h
  · obtain ⟨x, e⟩ := h a ha
    obtain ⟨y, e'⟩ := h b hb
    exact .inl ⟨x, y, e, e'⟩
  · obtain ⟨x, e⟩ := h a ha
    obtain ⟨y, e'⟩ := h b hb
    exact .inr ⟨x, y, e, e'⟩
theorem OneKind.alike {ks : List (Key × Int)} (h : OneKind ks) : PySem.W.AllAlike (ks.map ienc) := by
  intro d hd d' hd'
  obtain ⟨a, ha, rfl⟩ := List.mem_map.mp hd
  obtain ⟨b, hb, rfl⟩ := List.mem_map.mp hd'
  obtain ⟨a1, a2⟩ := a
  obtain ⟨b1, b2⟩ := b
  rcases h.two ha hb with ⟨x, y, e, e'⟩ | ⟨x, y, e, e'⟩
  · cases e; cases e'; simp [ienc, kdat, PySem.W.alike, PySem.W.alikeAll]
  · cases e; cases e'; simp [ienc, kdat, PySem.W.alike, PySem.W.alikeAll]
theorem isorted {ks : List (Key × Int)} (h : OneKind ks) : (ks.mergeSort (PySem.W.dataLe false ienc)).Pairwise fun a b => kle a.1 b.1 = true := by
  have := PySem.W.sort_pairwise (PySem.W.sortLe_total (PyProof.Rows.listOrd PyProof.Rows.itemOrd) false fun b => PySem.W.keyToks (ienc b)) ks
  refine List.Pairwise.imp_of_mem (fun {a b} ha hb hl => ienc_le (h.two (List.mem_mergeSort.mp ha) (List.mem_mergeSort.mp hb)) hl) this
end B
/-! B: sorted(d.items()) -/
namespace B
open PySem L2 PySem.Spec PyProof.Rows
/-- sorted(d.items()): tuples in the order of the keys -/
def rSortItems : V → Hp → VK → Prop := fun x H Q => ∃ (d : Addr) (ks : List (Key × Int)), x = .ref d ∧ H d = some (.dK (ks.map fun q => (q.1, V.int q.2))) ∧ OneKind ks ∧ ks.length ≤ 4000 ∧
  ∀ (ys : List (Key × Int)) (H' : Hp) (p : Addr) (ts : List Addr), ys.Perm ks → ys.Pairwise (fun a b => kle a.1 b.1 = true) → (∀ b o, H b = some o → H' b = some o) → H p = none → (∀ t ∈ ts, H t = none) → p ∉ ts → H' p = some (.lst (ts.map V.ref)) →
    Paired (fun (t : Addr) (q : Key × Int) => H' t = some (.tup [kV q.1, .int q.2])) ts ys → Q (.ref p) H'
def tSortItems (te : TE) : TE := fun σ H Q => te σ H fun x H1 => rSortItems x H1 Q
section
variable {prog : Program} {w : World} {A : Around} {E : Value → Shared → Prop} {s : Shared}
theorem each_refs {Rr : Value → Key × Int → Prop} : ∀ {out : List Value} {ys : List (Key × Int)}, PySem.W.EachIs Rr out ys → (∀ v q, Rr v q → ∃ t, v = .ref t) → ∃ ts : List Addr, out = ts.map Value.ref ∧ Paired (fun t q => Rr (.ref t) q) ts ys
  | _, _, .nil, _ => ⟨[], rfl, .nil⟩
  | _, _, .cons h r, hr => by
    obtain ⟨t, rfl⟩ := hr _ _ h
    obtain ⟨ts, rfl, q⟩ := each_refs r hr
    exact ⟨t :: ts, rfl, .cons h q⟩
theorem each_ix {α β : Type} {Rr : α → β → Prop} : ∀ {as : List α} {bs : List β}, as.length = bs.length → (∀ (j : Nat) (a : α) (b : β), as[j]? = some a → bs[j]? = some b → Rr a b) → PySem.W.EachIs Rr as bs
  | [], [], _, _ => .nil
  | [], _ :: _, h, _ => by simp at h
  | _ :: _, [], h, _ => by simp at h
  | a :: as, b :: bs, h, q => .cons (q 0 a b rfl rfl) (each_ix (by simpa using h) fun j x y h1 h2 => q (j + 1) x y (by simpa using h1) (by simpa using h2))
theorem paired_imp {α β : Type} {R S : α → β → Prop} : ∀ {as : List α} {bs : List β}, Paired R as bs → (∀ a b, a ∈ as → R a b → S a b) → Paired S as bs
  | _, _, .nil, _ => .nil
  | _, _, .cons h r, q => .cons (q _ _ List.mem_cons_self h) (paired_imp r fun a b ha => q a b (List.mem_cons_of_mem _ ha))
/-- what the k-th pair is, on the heap -/
def PairAt (h : Heap) (t : Addr) (q : Key × Int) : Prop := ∃ key tk', h.get? t = some { cls := .type "tuple", data := .seq #[key, .int q.2 tk'] } ∧ RelV (kV q.1) key
theorem PairAt.reads {h h2 : Heap} {t : Addr} {q : Key × Int} (p : PairAt h t q) (k : ∀ b o, h.get? b = some o → h2.get? b = some o) : Reads h2 (.ref t) (ienc q) [] := by
  obtain ⟨key, tk', f3, rk⟩ := p
  obtain ⟨q1, q2⟩ := q
  have rkey : Reads h2 key (kdat q1) [] := by
    cases q1 with
    | inl i => obtain ⟨t, rfl⟩ := (show ∃ t, key = Value.int i t from rk); exact .int i t
    | inr x => obtain ⟨t, rfl⟩ := (show ∃ t, key = Value.str x t from rk); exact .str x t
  exact .tuple (vs := #[key, .int q2 tk']) (k _ _ f3) rfl rfl (.cons (as := []) (bs := []) rkey (.cons (as := []) (bs := []) (.int q2 tk') .nil))
theorem ienc_depth (q : Key × Int) : (ienc q).depth ≤ 1 := by
  obtain ⟨q1, q2⟩ := q
  cases q1 <;> simp [ienc, kdat, PyData.depth, PyData.depthAll]
def IxP (as : List Addr) (ks : List (Key × Int)) (v : Value) (q : Key × Int) : Prop := ∃ (j : Nat) (t : Addr), v = .ref t ∧ as[j]? = some t ∧ ks[j]? = some q
/-- the list of pairs, sorted -/
theorem sort_pairs {a : Addr} {n : Nat} {as : List Addr} {ks : List (Key × Int)} {Q : Value → Shared → Prop} (ho : s.heap.get? a = some (seqObj "list" (as.map Value.ref).toArray n)) (hl : as.length = ks.length) (pr : ∀ (j : Nat) (t : Addr) (q : Key × Int), as[j]? = some t → ks[j]? = some q → PairAt s.heap t q)
    (hok : OneKind ks) (h4 : ks.length ≤ 4000) (hu : A.units + 4 < cLine)
    (h : ∀ (ts : List Addr) (ys : List (Key × Int)), ys.Perm ks → ys.Pairwise (fun a b => kle a.1 b.1 = true) → Paired (fun t q => IxP as ks (.ref t) q) ts ys → Q .none { s with heap := sortedHeap s.heap a (as.map Value.ref) (ts.map Value.ref).toArray }) :
    wpAny (model prog w) A (call (.builtin "list.sort") [.ref a]) Q E s := by
  have eR : PySem.W.EachIs (IxP as ks) (as.map Value.ref) ks := each_ix (by simpa using hl) fun j a b h1 h2 => by
    rw [List.getElem?_map] at h1
    obtain ⟨t, h3, rfl⟩ := Option.map_eq_some_iff.mp h1
    exact ⟨j, t, rfl, h3, h2⟩
  refine PySem.W.list_sort_data (enc := ienc) (R := IxP as ks) ho eR (eR.mono fun v q ⟨j, t, e, h1, h2⟩ => ⟨[], by rw [e]; exact (pr j t q h1 h2).reads fun _ _ z => z, by simp⟩) hok.alike (.inl fun d hd => ?_) (by rw [sizeLine_eq]; omega) (fun b _ => ?_) fun out ho hO => ?_
  · obtain ⟨b, _, rfl⟩ := List.mem_map.mp hd
    exact ⟨_, _, rfl⟩
  · have := ienc_depth b
    omega
  · obtain ⟨ts, rfl, q⟩ := each_refs hO fun v q ⟨_, t, e, _⟩ => ⟨t, e⟩
    exact h ts _ (List.mergeSort_perm _ _) (isorted hok) q
/-- sorted(the items' view) -/
theorem sorted_view {r d : Addr} {ep : Nat} {vs : List (Key × Value)} {ks : List (Key × Int)} {Q : Value → Shared → Prop} (hh : A.handled = none) (hv : s.heap.IsItemsView r d) (hm : s.heap.DictAt (mixKind prog w) d vs ep) (kv : KV (ks.map fun q => (q.1, V.int q.2)) vs)
    (hok : OneKind ks) (h4 : ks.length ≤ 4000) (hu : A.units + 8 < cLine)
    (hQ : ∀ (h' : Heap) (tk : Nat) (p : Addr) (as ts : List Addr) (ys : List (Key × Int)), (∀ b o, s.heap.get? b = some o → h'.get? b = some o) → r < p → (∃ n, h'.get? p = some (seqObj "list" (ts.map Value.ref).toArray n)) → as.Pairwise (· < ·) → (∀ t ∈ as, s.heap.objs.size < t ∧ t < p) → as.length = ks.length →
      (∀ (j : Nat) (t : Addr) (q : Key × Int), as[j]? = some t → ks[j]? = some q → PairAt h' t q) → ys.Perm ks → ys.Pairwise (fun a b => kle a.1 b.1 = true) → Paired (fun t q => IxP as ks (.ref t) q) ts ys → Q (.ref p) { s with heap := h', toks := tk }) :
    wpAny (model prog w) A (call (.builtin "sorted") [.ref r]) Q E s := by
  have lk' : ks.length = vs.length := by simpa using KV.length kv
  have hzl : vs.length ≤ sizeLine := by rw [← lk', sizeLine_eq]; omega
  refine Calls.call_function_entry kind_sorted plain_sorted entry_sorted (args_sorted1 _) ?_
  unfold Builtin.«sorted»
  refine wpAny_bind (m := checkCount "sorted" 1 1 _) (wpAny_pure ?_)
  refine wpAny_bind (PySem.W.kdx_collect (A := A.in1) (knd := mixKind prog w) (kvs := vs) (ep := ep) hh hv hm hzl fun h' tk as hk hl hG => ?_)
  have hal : (as.map Value.ref).length ≤ sizeLine := by rw [List.length_map, hl]; exact hzl
  have lak : as.length = ks.length := by omega
  have pr : ∀ (j : Nat) (t : Addr) (q : Key × Int), as[j]? = some t → ks[j]? = some q → PairAt h' t q := by
    intro j t q h1 h2
    obtain ⟨key, k, x, f1, f2, f3⟩ := hG.pairs j t h1
    have e2 : (ks.map fun q => (q.1, V.int q.2))[j]? = some (q.1, V.int q.2) := by rw [List.getElem?_map, h2]; rfl
    obtain ⟨qv, g1, g2, g3⟩ := LiI.paired_get kv e2
    rw [f1] at g1
    cases g1
    obtain ⟨t', rfl⟩ := (show ∃ t, x = Value.int q.2 t from g3)
    refine ⟨key, t', f3, ?_⟩
    rw [show q.1 = k from g2]
    exact relV_key (show keyIs k key = true from f2)
  refine wpAny_bind (wpAny_newList ?_ hal)
  have hoL : (h'.push (seqObj "list" (as.map Value.ref).toArray 0)).get? h'.objs.size = some (seqObj "list" (as.map Value.ref).toArray 0) := Heap.get?_push_size _ rfl
  refine wpAny_bind (wpAny_holding ?_)
  refine sort_pairs (A := A.in1) (s := ⟨h'.push (seqObj "list" (as.map Value.ref).toArray 0), s.gens, s.drawn, tk, s.os⟩) hoL lak (fun j t q h1 h2 => ?_) hok h4 (by show A.units + 1 + 4 < _; omega) fun ts ys y1 y2 y3 => ?_
  · obtain ⟨key, t', e1, e2⟩ := pr j t q h1 h2
    exact ⟨key, t', Heap.get?_push_of_some _ e1, e2⟩
  refine wpAny_pure ?_
  obtain ⟨c, hc⟩ := sortedHeap_at (vs := as.map Value.ref) (out := (ts.map Value.ref).toArray) hoL
  have keep : ∀ b o, h'.get? b = some o → (sortedHeap (h'.push (seqObj "list" (as.map Value.ref).toArray 0)) h'.objs.size (as.map Value.ref) (ts.map Value.ref).toArray).get? b = some o := fun b u e => by
    have hlt := Heap.lt_size e
    rw [sortedHeap_old (Nat.ne_of_lt hlt) (by rw [size_push']; exact Nat.lt_succ_of_lt hlt)]
    exact Heap.get?_push_of_some _ e
  refine ⟨_, rfl, hQ _ tk h'.objs.size as ts ys (fun b o e => keep b o (hk b o e)) ?_ ⟨c, hc⟩ hG.rise (fun t ht => ⟨hG.above t ht, hG.there ht⟩) lak (fun j t q h1 h2 => ?_) y1 y2 y3⟩
  · obtain ⟨o, ho, _⟩ := hv
    exact Heap.lt_size (hk _ _ ho)
  · obtain ⟨key, t', e1, e2⟩ := pr j t q h1 h2
    exact ⟨key, t', keep _ _ e1, e2⟩
end
section
variable {X : Cx} {e : Expr} {te : TE} {p apos cpos pos : Pos}
theorem ix_perm {as : List Addr} {ks ys : List (Key × Int)} {ts : List Addr} (h : Paired (fun t q => IxP as ks (.ref t) q) ts ys) : ∀ t ∈ ts, t ∈ as := fun t ht => by
  obtain ⟨j, q, e1, e2, j', t', e3, e4, e5⟩ := LiI.paired_ix h ht
  cases e3
  exact List.mem_of_getElem? e4
theorem pe_sortItems (hc : X.calm = true) (he : PE X e te) (hg : Gl X "sorted") (hm : X.mg "sorted" = none) (hu : X.A.units + 64 < cLine) (hbase : attributeBase e "items" X.env (eval e X.env) = eval e X.env := by rfl) (hline : (apos.endLine == cpos.line) = true := by rfl)
    (hs : starEach [.Call (.Attribute e "items" apos) [] [] cpos] X.env = (false, eval (.Call (.Attribute e "items" apos) [] [] cpos) X.env) :: starEach [] X.env := by rfl) :
    PE X (.Call (.Name "sorted" p) [.Call (.Attribute e "items" apos) [] [] cpos] [] pos) (tSortItems te) := by
  refine ⟨fun pins s σ H Q I hq => ?_⟩
  refine Call_ (ld_blt I hg hm (show bootBuiltins "sorted" = some (.builtin "sorted") by decide +kernel) ?_)
  refine PyProof.Rows.callWith_builtin1 (PyProof.Rows.args_cons ?_ hs) rfl rfl
  refine wpAny_Call_method (T := "dict") (id := "dict.items") hbase rfl hline F.plainAttrs_dict F.slot_dict_items F.type_dict_items (thn (he.run pins s σ H _ I hq) fun u s1 ⟨x, H1, I1, rx, d, ks, ex, hd, hok, h4, q⟩ => ?_)
  subst ex
  obtain rfl : u = Value.ref d := rx
  obtain ⟨hz, hs0, vs, kv, hdo⟩ := I1.hok d _ hd
  obtain ⟨ep, hat⟩ := hdo.dictAt
  refine ⟨hdo.typeIs, hdo.mapOf.noDict, ?_⟩
  show wpAny _ _ (callWith cpos (.builtin "dict.items") [.ref d] [] []) _ X.xe s1
  refine method_meetsIn F.slot_dict_items F.entry_dict_items rfl (PySem.evalArgs_none ⟨rfl, hdo.typeIs, F.args_dict_items_1 _, _, meets_dict_items (mixKind X.prog X.w) d hs0, ⟨vs, hdo⟩, ?_⟩)
  refine PyProof.Rows.args_nil ?_
  have hvw : (s1.heap.push { cls := .type "dict_items", data := .fields #[.ref d] }).IsItemsView s1.heap.objs.size d := ⟨_, Heap.get?_push_size _ rfl, rfl, rfl⟩
  refine sorted_view (s := { s1 with heap := s1.heap.push { cls := .type "dict_items", data := .fields #[.ref d] } }) (I1.ok.hd hc) hvw (hat.push _) kv hok h4 (by omega) fun h' tk p as ts ys hk hp hl rise ab la pr y1 y2 y3 => ?_
  have keep : ∀ b o, s1.heap.get? b = some o → h'.get? b = some o := fun b o e => hk b o (Heap.get?_push_of_some _ e)
  have hp' : s1.heap.objs.size < p := hp
  have zle : s1.heap.objs.size ≤ (s1.heap.push { cls := .type "dict_items", data := .fields #[.ref d] }).objs.size := by rw [Heap.size_push]; exact Nat.le_succ _
  have hn0 : H1 p = none := I1.hok.fresh (Nat.le_of_lt hp')
  have I2 : Inv X pins σ H1 { s1 with heap := h', toks := tk } := I1.kept (t' := tk) keep
  obtain ⟨n, hl⟩ := hl
  have lt : ts.length = ks.length := by
    have := Paired.length y3
    rw [this, y1.length_eq]
  have I3 : Inv X pins σ (upd H1 p (.lst (ts.map V.ref))) { s1 with heap := h', toks := tk } :=
    I2.take (h' := h') (t' := tk) (fun b ob _ e => e) (I1.fpOk (Nat.le_of_lt hp') hn0) ⟨by rw [List.length_map, sizeLine_eq]; omega, ts.map Value.ref, n, LiI.vals_refs ts, hl⟩
  have nd : as.Nodup := List.Pairwise.imp (fun h => Nat.ne_of_lt h) rise
  have low : ∀ t ∈ as, s1.heap.objs.size ≤ t ∧ t < p := fun t ht => ⟨Nat.le_of_lt (Nat.lt_of_le_of_lt zle (ab t ht).1), (ab t ht).2⟩
  obtain ⟨H2, I4, g, qt⟩ := DX.takeT (P := fun b vs => ∃ (j : Nat) (q : Key × Int), as[j]? = some b ∧ ks[j]? = some q ∧ vs = [kV q.1, .int q.2]) I1 as _ I3 nd fun b hb => by
    obtain ⟨j, hj⟩ := List.mem_iff_getElem?.mp hb
    obtain ⟨hb1, hb2⟩ := low b hb
    have hj2 : j < ks.length := by have := (List.getElem?_eq_some_iff.mp hj).1; omega
    obtain ⟨key, tk', e1, e2⟩ := pr j b ks[j] hj (by simp [hj2])
    refine ⟨hb1, by rw [upd_ne (Nat.ne_of_lt hb2)]; exact I1.hok.fresh hb1, _, ⟨j, ks[j], hj, by simp [hj2], rfl⟩, fun H3 => ⟨by rw [sizeLine_eq]; show 2 ≤ 16777216; omega, [key, .int (ks[j]).2 tk'], .cons e2 (.cons ⟨tk', rfl⟩ .nil), ⟨_, e1, rfl, 0, rfl⟩⟩⟩
  have gr : ∀ b o, H1 b = some o → H2 b = some o := fun b o e => g b o (by rw [upd_ne (ne_of_none e hn0)]; exact e)
  have ht := ix_perm y3
  refine ⟨.ref p, H2, I4, rfl, q ys H2 p ts y1 y2 gr hn0 (fun t z => I1.hok.fresh (low t (ht t z)).1) (fun z => Nat.lt_irrefl _ (low p (ht p z)).2) (g _ _ upd_same) (paired_imp y3 fun t q hm ⟨i, t', e, i1, i2⟩ => ?_)⟩
  cases e
  obtain ⟨vs, ⟨j, q', j1, j2, ev⟩, hH⟩ := qt t (List.mem_of_getElem? i1)
  have eij : i = j := (List.getElem?_inj (List.getElem?_eq_some_iff.mp i1).1 nd).mp (i1.trans j1.symm)
  subst eij
  have ee : q' = q := Option.some.inj (j2.symm.trans i2)
  rw [ev, ee] at hH
  exact hH
end
end B
/-! B: methods and classes called with keywords, keyword-only defaults -/
namespace B
open PySem L2 PySem.Spec PyProof.Rows
/-- how a def without defaults binds n values and the keywords ks -/
theorem kbn_mk {K : Fg} {x qual : Str} {st : Stmt} {f : Addr} {fd : FuncData} {ps : List Str} {n : Nat} {ks : List Str} {l : List Nat} (F : Fun K x qual st f fd)
    (h : ∀ (kV doc pm : Value) (an : Option Addr) (cdv ct : Value) (us ws : List Value), us.length = n → ws.length = ks.length → bindArgs (PySem.W.fnOf x qual (defArgs st) (defBody st) (defScope st) .none kV doc pm an cdv ct) ⟨us, ks.zip ws⟩ = pure (ps.zip (us ++ perm l ws))) :
    ∃ g, KBn K fd ps n ks g (fun vs zs => vs ++ perm l zs) := by
  obtain ⟨oc, od, kV, doc, pm, an, cdv, ct, osl, rfl, lk, hcd⟩ := F.ex
  exact ⟨fun us ws => us ++ perm l ws, ⟨fun s us ws _ h1 h2 => .of_eq (h kV doc pm an cdv ct us ws h1 h2), fun r1 r2 => r1.append (perm_rel l r2)⟩⟩
theorem fund_mk {K : Fg} {x qual : Str} {st : Stmt} {f D : Addr} {oc : Value} {od an : Option Addr} {osl : Array (Option Value)} {doc pm cdv ct : Value} {kws : List (Str × V)} (l : K.lookup f = some ⟨oc, od, .func (PySem.W.fnOf x qual (defArgs st) (defBody st) (defScope st) .none (.ref D) doc pm an cdv ct), osl⟩)
    (c : PySem.W.codeIn K cdv qual = true) (k : PySem.W.keepIn K (.ref f) = true) (hk : ∀ q ∈ kws, ∃ u, PySem.W.nsIn K D q.1 = some (some u) ∧ RelV q.2 u) :
    FunD K x qual (defArgs st) (defBody st) (defScope st) [] kws f (PySem.W.fnOf x qual (defArgs st) (defBody st) (defScope st) .none (.ref D) doc pm an cdv ct) :=
  ⟨⟨oc, od, .none, .ref D, doc, pm, an, cdv, ct, osl, rfl, l, c, .inl ⟨rfl, rfl⟩, .inr ⟨D, rfl, hk⟩⟩, k⟩
/-- .. and one with keyword-only defaults, those of ms lacking -/
theorem kbd_mk {K : Fg} {x qual : Str} {params : Arguments} {body : List Stmt} {scope : Scope} {f : Addr} {fd : FuncData} {ps : List Str} {n : Nat} {ks : List Str} {kws ms : List (Str × V)} {l : List Nat} (F : FunD K x qual params body scope [] kws f fd) (hk : kws ≠ []) (hms : ∀ q ∈ ms, q ∈ kws)
    (h : ∀ (D : Addr) (doc pm : Value) (an : Option Addr) (cdv ct : Value) (us mv ws : List Value), us.length = n → mv.length = ms.length → ws.length = ks.length →
      KwChain D ((ms.map (·.1)).zip mv) (bindArgs (PySem.W.fnOf x qual params body scope .none (.ref D) doc pm an cdv ct) ⟨us, ks.zip ws⟩) (ps.zip (us ++ perm l (ws ++ mv)))) :
    ∃ g, KBn K fd ps n ks g (fun vs zs => vs ++ perm l (zs ++ ms.map (·.2))) := by
  obtain ⟨mv, q⟩ := F.kbinds0 n ks ms (fun us mv ws => us ++ perm l (ws ++ mv)) hk hms (fun r1 r2 r3 => r1.append (perm_rel l (r3.append r2))) h
  exact ⟨_, q⟩
/-- o.m(e, .., k = v, ..) -/
def tMethN (C : Addr) (m : Str) (n j : Nat) (sp : Sp) (gV : List V → List V → List V) (E : XK) (to : TE) (t tk : TA) : TE := fun σ H Q => to σ H fun x H1 => ∃ a dx fs, x = .ref a ∧ H1 a = some (.ins C dx fs) ∧ fs.lookup m = none ∧
  t σ H1 fun vs H2 => tk σ H2 fun zs H3 => vs.length = n ∧ zs.length = j ∧ sp (gV (x :: vs) zs) H3 Q E
section
variable {X : Cx} {CX : CXT} {k n j : Nat} {f C : Addr} {fd : FuncData} {ps ks : List Str} {sp : Sp} {E : XK} {o e : Expr} {es : List Expr} {to : TE} {t tk : TA} {kws : List Keyword} {m : Str} {apos pos : Pos} {gV : List V → List V → List V}
theorem pe_methN0 {pl : Sem Bool} (he : PE X o to) (c : Cls X.K C) (hm : Meth X.K C m f) (F : FnOk X.prog X.w X.K X.mg X.base CX k f fd ps sp) (hr : Room k X.A) (hb : ∃ g, KBn X.K fd ps 1 ks g gV) (hx : Passes CX X E)
    (hkw : PK X kws tk) (hall : (backToKw pos (keywordEach kws X.env)).all (·.1.isSome) = true := by rfl) (hks : (backToKw pos (keywordEach kws X.env)).filterMap (·.1) = ks := by rfl)
    (hn : j = ks.length := by rfl) (hpl : ((backTo pos (starEach [] X.env)).any (·.1) || (backToKw pos (keywordEach kws X.env)).any (·.1.isNone)) = false := by rfl)
    (ht : eval (.Call (.Attribute o m apos) [] kws pos) X.env = (eval o X.env >>= fun ov => standAt apos.atName >>= fun _ => holding [ov] (getMethod ov m pl) >>= fun fx => callWith pos fx.1 fx.2 (backTo pos (starEach [] X.env)) (backToKw pos (keywordEach kws X.env))) := by rfl) :
    PE X (.Call (.Attribute o m apos) [] kws pos) (tMethN C m 0 j sp gV E to tNil tk) := by
  subst hn
  obtain ⟨g, hb⟩ := hb
  refine ⟨fun pins s σ H Q I h => PySem.W.methodCall_KW (pl := pl) (thn (he.run pins s σ H _ I h) fun u s1 ⟨x, H1, I1, rx, a, dx, fs, ex, ea, lk, q⟩ => ?_) ht⟩
  subst ex
  obtain rfl : u = Value.ref a := rx
  refine getmeth_ok I1 ea c hm lk (PySem.W.callWith_KW0 (first := [.ref a]) (h₀ := X.base) I.ok.mod.kin hm.kp hall (thn (hkw.run pos pins s1 σ H1 _ I1 q) fun ws s2 ⟨zs, H2, I2, rz, _, hl, q2⟩ => ⟨I2.kIn, ?_⟩) hpl)
  rw [hks]
  exact run_fnN (vs := [.ref a]) F hr hb hx I2 (.cons rfl .nil) rz rfl hl q2
theorem pe_methN {pl : Sem Bool} (he : PE X o to) (c : Cls X.K C) (hm : Meth X.K C m f) (F : FnOk X.prog X.w X.K X.mg X.base CX k f fd ps sp) (hr : Room k X.A) (hb : ∃ g, KBn X.K fd ps (n + 1) ks g gV) (hx : Passes CX X E) (ha : PA X (e :: es) t)
    (hkw : PK X kws tk) (hall : (backToKw pos (keywordEach kws X.env)).all (·.1.isSome) = true := by rfl) (hks : (backToKw pos (keywordEach kws X.env)).filterMap (·.1) = ks := by rfl)
    (hn : j = ks.length := by rfl) (hpl : ((backTo pos (starEach (e :: es) X.env)).any (·.1) || (backToKw pos (keywordEach kws X.env)).any (·.1.isNone)) = false := by rfl) (hs : starEach (e :: es) X.env = (false, eval e X.env) :: starEach es X.env := by rfl)
    (ht : eval (.Call (.Attribute o m apos) (e :: es) kws pos) X.env = (eval o X.env >>= fun ov => standAt apos.atName >>= fun _ => holding [ov] (getMethod ov m pl) >>= fun fx => callWith pos fx.1 fx.2 (backTo pos (starEach (e :: es) X.env)) (backToKw pos (keywordEach kws X.env))) := by rfl) :
    PE X (.Call (.Attribute o m apos) (e :: es) kws pos) (tMethN C m n j sp gV E to t tk) := by
  subst hn
  obtain ⟨g, hb⟩ := hb
  refine ⟨fun pins s σ H Q I h => PySem.W.methodCall_KW (pl := pl) (thn (he.run pins s σ H _ I h) fun u s1 ⟨x, H1, I1, rx, a, dx, fs, ex, ea, lk, q⟩ => ?_) ht⟩
  subst ex
  obtain rfl : u = Value.ref a := rx
  refine getmeth_ok I1 ea c hm lk (PySem.W.callWith_KW (first := [.ref a]) (h₀ := X.base) I.ok.mod.kin hm.kp hall (thn (ha.run pos pins s1 σ H1 _ I1 q) fun us s2 ⟨vs, H2, I2, r, q2⟩ => thn (hkw.run pos pins s2 σ H2 _ I2 q2) fun ws s3 ⟨zs, H3, I3, rz, l1, l2, q3⟩ => ⟨I3.kIn, ?_⟩) hpl hs)
  rw [hks]
  exact run_fnN (vs := .ref a :: vs) F hr hb hx I3 (.cons rfl r) rz (by rw [List.length_cons, l1]) l2 q3
theorem pe_makeKE {x : Str} {p : Pos} (M : Mk X.K C f) (F : FnOk X.prog X.w X.K X.mg X.base CX k f fd ps sp) (hr : Room (k + 1) X.A) (hg : Gl X x) (hm : X.mg x = some (.ref C)) (hb : ∃ g, KBn X.K fd ps 1 ks g gV) (hx : Passes CX X E) (hkw : PK X kws tk)
    (hall : (backToKw pos (keywordEach kws X.env)).all (·.1.isSome) = true := by rfl) (hks : (backToKw pos (keywordEach kws X.env)).filterMap (·.1) = ks := by rfl) (hdb : (x == ("__debug__" : Str)) = false := by decide) (hn : j = ks.length := by rfl)
    (hpl : ((backTo pos (starEach [] X.env)).any (·.1) || (backToKw pos (keywordEach kws X.env)).any (·.1.isNone)) = false := by rfl) : PE X (.Call (.Name x p) [] kws pos) (tMakeK C 0 j sp gV E tNil tk) := by
  subst hn
  obtain ⟨g, hb⟩ := hb
  exact pe_makeK0 M F hr hg hm hb hx hkw hall hks hdb hpl
end
end B
/-! B: promises kept where no repr is under way (the guards are known to be none), from the top on; repr of a list -/
namespace B
open PySem PySem.Spec PyProof.Rows L2
/-- the promise sp is kept by the def at f wherever no guard stands -/
structure FnG (P : Program) (w : World) (K : Fg) (mg : Str → Option Value) (base : Heap) (k : Nat) (f : Addr) (fd : FuncData) (ps : List Str) (sp : Sp) : Prop where
  ln : ∀ vs H Q E, sp vs H Q E → vs.length = ps.length
  go : ∀ {A : Around} {outer : List Env} {s : Shared} {H : Hp} {args : Args} {us : List Value} {vs : List V} {Q : VK} {E : XK}, A.guards = some [] → Room k A → Env0 P w K mg base A outer s H → BindsTo s fd args (ps.zip us) → Vals vs us → sp vs H Q E →
    codeAny (model P w) A (.call (.ref f) args) (CR CX0 outer P w H s Q E) s
section
variable {P : Program} {w : World} {K : Fg} {mg : Str → Option Value} {base : Heap}
/-- how a body's end is a call's end -/
theorem end_of {X : Cx} {Q : VK} {E : XK} {outer : List Env} {H : Hp} {s s' : Shared} {N : List Str} {qual : Str} {sc : Scope} {f : Addr} {cd : Value} {A : Around} {σ : L2.St} {H' : Hp} {v : V} {u : Value}
    (J : Inv (cxOf CX0 P w K mg base N qual sc f cd A outer s H E) [] σ H' s') (r : RelV v u) (q : Q v H') : CE outer P w H s Q u s' := ⟨v, H', J.os, J.bare, J.base, J.hok, r, q⟩
theorem okG {x qual : Str} {st : Stmt} {f : Addr} {fd : FuncData} {N ps : List Str} {k : Nat} {sp : Sp} (F : Fun K x qual st f fd) (S : FnScope N ps (defScope st)) (ln : ∀ vs H Q E, sp vs H Q E → vs.length = ps.length)
    (body : ∀ (cd : Value) (A : Around), A.guards = some [] → ∀ (outer : List Env) (s : Shared) (H : Hp) (vs : List V) (Q : VK) (E : XK), Room k (A.deeper (envOfC qual (defScope st) s.heap.objs.size f cd)) → sp vs H Q E →
      ∃ t, PSs (cxOf CX0 P w K mg base N qual (defScope st) f cd A outer s H E).nox (defBody st) t ∧ t { nx := fun _ H' => Q .non H', rt := Q } (start N vs) H) : FnG P w K mg base (k + 1) f fd ps sp := by
  obtain ⟨oc, od, kV, doc, pm, an, cd, ct, osl, rfl, lk, hcd⟩ := F.ex
  refine ⟨ln, fun {A outer s H args us vs Q E} hg hr e0 hb r h => ?_⟩
  have same : ∀ b o, base.get? b = some o → s.heap.get? b = some o := fun b o z => (e0.bs b o z).1
  have inK := e0.mod.kin.keeps same
  obtain ⟨t, ht, q⟩ := body cd A hg outer s H vs Q E (hr.deeper _) h
  refine codeAny_call_function hr.depth (inK _ _ lk) rfl S.co S.gen rfl (PySem.W.codeRec_of inK hcd) (hb _ _ _ _ (wpAny_newFunctionEnv_cells S.kind (fun y hy => ?_) fun env he s1 z => ?_))
  · obtain ⟨n, v⟩ := y
    exact (S.par n (List.of_mem_zip hy).1).imp id fun c => ⟨c, PySem.W.cellsFrom_some _ _ _ (.inl c)⟩
  · subst he
    refine ⟨(e0.mod.nolimit.keeps same).keeps z.toInCall.keep, codeAny_func (wpAny_mono (ht.nox.run [] s1 (start N vs) H _ (inv_start S hr.hd e0 (ln _ _ _ _ h) r z) q) (fun fl s' d => ?_) fun _ _ d => d)⟩
    cases fl with
    | ret u => obtain ⟨v, σ', H', J, rv, d⟩ := d; exact end_of (X := cxOf CX0 P w K mg base N qual (defScope st) f cd A outer s H E) J rv d
    | next => obtain ⟨σ', H', J, d⟩ := d; exact end_of (X := cxOf CX0 P w K mg base N qual (defScope st) f cd A outer s H E) (v := .non) J rfl d
    | brk => obtain ⟨_, _, _, d⟩ := d; exact d.elim
    | cont => obtain ⟨_, _, _, d⟩ := d; exact d.elim
end
section
variable {X : Cx} {k : Nat} {f : Addr} {fd : FuncData} {ps : List Str} {sp : Sp} {E : XK} {x : Str} {p pos : Pos} {e : Expr} {es : List Expr} {t : TA}
theorem pe_callG (F : FnG X.prog X.w X.K X.mg X.base k f fd ps sp) (gd : X.A.guards = some []) (hr : Room k X.A) (hg : Gl X x) (hm : X.mg x = some (.ref f)) (hk : PySem.W.keepIn X.K (.ref f) = true) (hb : Binds X.K fd ps []) (hx : Passes CX0 X E) (ha : PA X (e :: es) t)
    (hdb : (x == ("__debug__" : Str)) = false := by decide) (he : starEach (e :: es) X.env = (false, eval e X.env) :: starEach es X.env := by rfl) (hpl : (backTo pos (starEach es X.env)).any (·.1) = false := by rfl) :
    PE X (.Call (.Name x p) (e :: es) [] pos) (tCall sp [] E t) :=
  ⟨fun pins s σ H Q I h => wpAny_Call_Name_kw (ld_glob I hg hm (PySem.W.callWith_K (h₀ := X.base) I.ok.mod.kin hk (thn (ha.run pos pins s σ H _ I h) fun us s1 ⟨vs, H1, I1, r, q⟩ => ⟨I1.kIn, by
    have q' : sp vs H1 Q E := by have := q; simp only [List.append_nil] at this; exact this
    have hl : us.length = ps.length := r.length.symm.trans (F.ln _ _ _ _ q')
    have bd : BindsTo s1 fd ⟨us, []⟩ (ps.zip us) := by have := hb s1 us I1.kIn (by simpa using hl); simpa using this
    refine wpAny_call (codeAny_mono (F.go gd hr I1.env0 bd r q') fun r s' d => ?_)
    cases r with
    | error e => exact hx pins σ H1 s1 e s' I1 d
    | ok fl => cases fl <;> first | exact I1.after d | exact d.elim⟩) he hpl) hdb)⟩
end
/-! ### the top -/
/-- the abstract heap at the top: the script alone, and that only where it is none of the module's own things -/
def topH (K : Fg) (a : Addr) (o : Obj) (ns : List Int) : Hp := fun b => if b = a ∧ K.lookup a = none then some (.frz o (.lst (ns.map V.int))) else none
theorem topH_some {K : Fg} {a b : Addr} {o : Obj} {ns : List Int} {u : HO} (h : topH K a o ns b = some u) : b = a ∧ K.lookup a = none ∧ u = .frz o (.lst (ns.map V.int)) := by
  unfold topH at h
  split at h
  · rename_i c; exact ⟨c.1, c.2, (Option.some.inj h).symm⟩
  · cases h
theorem topH_none {K : Fg} {a b : Addr} {o : Obj} {ns : List Int} (h : ¬ (b = a ∧ K.lookup a = none)) : topH K a o ns b = none := if_neg h
section
variable {P : Program} {w : World} {K : Fg} {mg mb : Str → Option Value} {a fa : Addr} {s : Shared} {vs : List Value} {ns : List Int} {k : Nat} {fd : FuncData} {x : Str} {sp : Sp}
theorem top_seq (KX : K.In s.heap) (ha : s.heap.get? a = some { cls := .type "list", data := .seq vs.toArray }) (hi : IntsAre vs ns) (hl : ns.length ≤ sizeLine) : SqL K (topH K a { cls := .type "list", data := .seq vs.toArray } ns) a (ns.map V.int) := by
  cases e : K.lookup a with
  | none => exact .inl (.inr ⟨_, if_pos ⟨rfl, e⟩⟩)
  | some o =>
    have := (KX a o e).symm.trans ha
    cases this
    exact .inr ⟨_, vs.toArray, _, e, rfl, rfl, rfl, by rw [List.size_toArray, hi.length]; exact hl, by simpa using vals_ints hi⟩
theorem top_ok (ha : s.heap.get? a = some { cls := .type "list", data := .seq vs.toArray }) (hi : IntsAre vs ns) (hl : ns.length ≤ sizeLine) : HOk P w (topH K a { cls := .type "list", data := .seq vs.toArray } ns) s.heap := fun b u z => by
  obtain ⟨rfl, _, rfl⟩ := topH_some z
  exact ⟨ha, by rw [List.length_map]; exact hl, vs, _, vals_ints hi, ha⟩
theorem top_env (KX : K.In s.heap) (hns : s.heap.Ns mainGlobals mg) (hb : s.heap.Ns builtinsNs mb) (hbb : ∀ x : Str, x ≠ "__name__" → mb x = bootBuiltins x) (hlim : s.heap.NoLimit) (hg : s.gens = #[]) (ha : s.heap.get? a = some { cls := .type "list", data := .seq vs.toArray }) (hi : IntsAre vs ns) (hl : ns.length ≤ sizeLine) :
    K.In (hidT s.heap (topH K a { cls := .type "list", data := .seq vs.toArray } ns)) ∧ (hidT s.heap (topH K a { cls := .type "list", data := .seq vs.toArray } ns)).Ns mainGlobals mg ∧
      Env0 P w K mg (hidT s.heap (topH K a { cls := .type "list", data := .seq vs.toArray } ns)) callerA [] s (topH K a { cls := .type "list", data := .seq vs.toArray } ns) := by
  let H := topH K a { cls := .type "list", data := .seq vs.toArray } ns
  have stay : ∀ {b : Addr} {o : Obj}, s.heap.get? b = some o → (b = a → K.lookup a = none → False) → (hidT s.heap H).get? b = some o := fun z n => hidT_get z (topH_none fun c => n c.1 c.2)
  have ns' : ∀ {b : Addr} {m : Str → Option Value}, s.heap.Ns b m → (hidT s.heap H).Ns b m := fun {b m} z => by
    obtain ⟨o, es, ep, z1, z2, z3⟩ := z
    refine ⟨o, es, ep, stay z1 fun c _ => ?_, z2, z3⟩
    subst c
    rw [ha] at z1
    cases z1
    cases z2
  have kin : K.In (hidT s.heap H) := fun b o z => stay (KX b o z) fun c n => by subst c; rw [n] at z; cases z
  obtain ⟨mc, l1, l2⟩ := hlim
  exact ⟨kin, ns' hns, rfl, ⟨kin, ns' hns, ⟨mb, ns' hb, hbb⟩, mc, ns' l1, l2⟩, fun b o z => of_hidT z, Nat.le_of_eq (hidT_size _ _), trivial, fun b z => (nomatch z), top_ok ha hi hl, .of_eq hg⟩
theorem top_law (KX : K.In s.heap) (hns : s.heap.Ns mainGlobals mg) (hb : s.heap.Ns builtinsNs mb) (hbb : ∀ x : Str, x ≠ "__name__" → mb x = bootBuiltins x) (hlim : s.heap.NoLimit) (hg : s.gens = #[]) (ha : s.heap.get? a = some { cls := .type "list", data := .seq vs.toArray }) (hi : IntsAre vs ns) (hl : ns.length ≤ sizeLine)
    (hr : Room k callerA) (F : ∀ base : Heap, K.In base → base.Ns mainGlobals mg → FnG P w K mg base k fa fd [x] sp) (hbind : ∀ (s : Shared) (u : Value), BindsTo s fd ⟨[u], []⟩ [(x, u)])
    (hsp : ∀ H : Hp, Only H → SqL K H a (ns.map V.int) → sp [.ref a] H (fun v _ => v = .bl true) fun _ _ _ => False) :
    codeAny (model P w) callerA (.call (.ref fa) ⟨[.ref a], []⟩) (fun r s' => r = .ok (.ret (.bool true)) ∧ OldK s.heap s'.heap ∧ s'.os = s.os ∧ AllBare s'.gens) s := by
  obtain ⟨kin, hn, e0⟩ := top_env (P := P) (w := w) KX hns hb hbb hlim hg ha hi hl
  have only : Only (topH K a { cls := .type "list", data := .seq vs.toArray } ns) := fun b => by
    cases z : topH K a { cls := .type "list", data := .seq vs.toArray } ns b with
    | none => exact .inl rfl
    | some u => obtain ⟨_, _, rfl⟩ := topH_some z; exact .inr ⟨_, _, rfl⟩
  refine codeAny_mono ((F _ kin hn).go (us := [.ref a]) (vs := [.ref a]) rfl hr e0 (hbind s (.ref a)) (.cons rfl .nil) (hsp _ only (top_seq KX ha hi hl))) fun r s' d => ?_
  cases r with
  | error e => exact absurd d (by intro z; exact z.elim)
  | ok fl =>
    cases fl with
    | next => exact d.elim
    | brk => exact d.elim
    | cont => exact d.elim
    | ret u =>
      obtain ⟨v, H', hos, hbare, un, ok', rv, rfl⟩ := d
      cases (show u = Value.bool true from rv)
      refine ⟨rfl, OldK.of_keep fun b o z => ?_, hos, hbare⟩
      cases q : topH K a { cls := .type "list", data := .seq vs.toArray } ns b with
      | none => exact un.keep b o z q (fun c => nomatch c) (fun c => nomatch c)
      | some u =>
        obtain ⟨rfl, _, rfl⟩ := topH_some q
        have := (ok' _ _ (un.frzs _ _ _ q)).1
        rw [ha] at z
        cases z
        exact this
end
theorem walkG {l : PySem.W.OpenLaw} {n k : Nat} {q : Program} {loose : List Str} {XP : (Str → Option Value) → Heap → Prop} {YP : World → Heap → Prop} {d : DefRec} {K : Params → Fg} {sp : World → Sp} {x : Str} (hn : l.most = some n) (hn2 : n ≤ sizeLine) (hdf : d.params.defaults = []) (hr : Room k callerA)
    (hY : ∀ (w : World) (h : Heap), YP w h → (K w.params).In h)
    (F : ∀ (w : World) (mg : Str → Option Value) (fa : Addr) (h : Heap), (K w.params).In h → h.Ns mainGlobals mg → mg d.name = some (.ref fa) → ∃ fd : FuncData, (∀ (s : Shared) (u : Value), BindsTo s fd ⟨[u], []⟩ [(x, u)]) ∧
      ∀ base : Heap, (K w.params).In base → base.Ns mainGlobals mg → FnG l.prog w (K w.params) mg base k fa fd [x] (sp w))
    (hsp : ∀ (w : World) (H : Hp) (a : Addr) (ns : List Int), ns.length ≤ n → Only H → SqL (K w.params) H a (ns.map V.int) → sp w [.ref a] H (fun v _ => v = .bl true) fun _ _ _ => False) :
    PySem.W.WalkO q loose XP YP l.row.toRowW d [] (fun f vs => PySem.call f vs) :=
  Att.attach_call hn hdf fun w s₀ s₁ mg mb fa o pm cd doc a vs ns G Y ho hd hcd hmg hobj hints hlen hg => by
    obtain ⟨fd, hb, hF⟩ := F w mg fa _ (hY w _ Y) G.T.g hmg
    exact top_law (hY w _ Y) G.T.g G.T.b G.T.builtins G.T.nolimit hg hobj hints (Nat.le_trans hlen hn2) hr hF hb fun H hO hS => hsp w H a ns hlen hO hS
/-! ### repr(list) -/
def rRepr (K : Fg) : List V → Hp → VK → Prop := fun vs H Q => ∃ x d, vs = [x] ∧ Dp K H x (.list d) ∧ PyData.showableAll d = true ∧ PyData.hasDictAll d = false ∧ PyData.depthAll d ≤ 40 ∧ (listText (PyData.shownAll d)).length ≤ sizeLine ∧ Q (.str (listText (PyData.shownAll d))) H
section
variable {prog : Program} {w : World} {A : Around} {E : Value → Shared → Prop} {s : Shared}
theorem repr_list {v : Value} {d : List PyData} {az : List Addr} {Q : Value → Shared → Prop} (r : Reads s.heap v (.list d) az) (hs : PyData.showableAll d = true) (hd : PyData.hasDictAll d = false) (hg : A.guards = some []) (hu : A.units + 60 < cLine) (h40 : PyData.depthAll d ≤ 40) (hz : (listText (PyData.shownAll d)).length ≤ sizeLine)
    (hQ : ∀ h' u tk, (∀ b o, s.heap.get? b = some o → h'.get? b = some o) → Q (.str (listText (PyData.shownAll d)) u) { s with heap := h', toks := tk }) : wpAny (model prog w) A (call (.builtin "repr") [v]) Q E s := by
  have r0 := r
  cases r with
  | list h1 h2 h3 h4 =>
    rename_i a o vs n az'
    obtain ⟨bs, hb, hk⟩ := ReprAllK.of_readsAll (prog := prog) (w := w) h4 hs (fun hx => by rw [hd] at hx; cases hx) (fun t ht => Nat.le_trans (listText_mem_le ht) hz)
    have hna : a ∉ bs := not_mem_of_deeper r0 (by simp only [PyData.depth]; omega) hb
    have hTy : s.TypeIs (.ref a) "list" := ⟨o, h1, h2⟩
    refine Calls.call_function_entry F.kind_repr F.plain_repr F.entry_repr (F.args_repr1 _) ?_
    unfold Builtin.«repr»
    refine wpAny_bind (m := oneArg "repr" _) (wpAny_pure ?_)
    refine wpAny_bind (wpAny_cRoomFor (by show A.units + 1 < _; omega) ?_)
    refine wpAny_bind (wpAny_specialOf (name := Str.ofString "__repr__") hTy F.slot_list_repr.lookup ?_)
    have fin : ∀ h' u tk, (∀ b o, s.heap.get? b = some o → h'.get? b = some o) → wpAny (model prog w) A.in1 (isInstance (.str (listText (PyData.shownAll d)) u) (.type "str") >>= fun b => if b = true then ret (.str (listText (PyData.shownAll d)) u) else rule "repr.not-str" >>= fun _ => typeNameOf (.str (listText (PyData.shownAll d)) u) >>= fun nm => raiseError "TypeError" s!"__repr__ returned non-string (type {nm})")
        (fun fin s' => ∃ v, fin = .done (.ret v) ∧ Q v s') E { s with heap := h', toks := tk } := fun h' u tk hk =>
      wpAny_bind (wpAny_isInstance (T := "str") (b := true) rfl isSubtype_str_str (wpAny_pure ⟨_, rfl, hQ h' u tk hk⟩))
    obtain ⟨l⟩ := vs
    refine wpAny_bind (m := callSpecialIfBound? (.ref a) (Str.ofString "__repr__")) (wpAny_callSpecialIfBound?_slot (name := Str.ofString "__repr__") hTy F.slot_list_repr ?_)
    cases l with
    | nil =>
      have h4' : ReadsAll s.heap [] d _ := h4
      cases h4'
      exact call_list_repr_empty hTy h1 h3 (fin s.heap _ _ fun _ _ e => e)
    | cons x l =>
      exact call_list_reprK h1 h2 h3 hna (by simpa using hk.length_eq) (fun i y e => hk.item i y (by simpa using e)) (show A.in1.guards = some [] from hg) (fun b _ => Clear.nil b) (by show A.units + 1 + _ < _; omega) (fun _ _ e => e) (fun h' u tk hk' => fin h' u tk hk') hz
end
theorem cr_repr {X : Cx} (hg : X.A.guards = some []) (hu : X.A.units + 64 < cLine) : CallR X (.builtin "repr") (rRepr X.K) := by
  intro pins s σ H xs us Q I r h
  obtain ⟨x, d, rfl, hd, h1, h2, h3, h4, q⟩ := h
  obtain ⟨u, rfl, ru⟩ := vals1 r
  obtain ⟨az, rd⟩ := Dp.reads I _ _ _ hd ru
  exact repr_list rd h1 h2 hg (by omega) h3 h4 fun h' u tk hk => ⟨.str _, H, I.kept hk, ⟨_, rfl⟩, q⟩
end B
/-! B: dicts that change, told by any expression; dict comprehensions with tests; sorted keys -/
namespace B
open PySem L2
open PySem.W (Tup T3 T4 Datum DatumOrd)
open Evl (Ex)
section
variable {κ α : Type} [DecidableEq κ] [PyKey κ] [Py α] {K : Fg} {W W' : Wd} {d : Addr} {kv : List (κ × α)} {ε : Ef} {σ : SS} {te ty tv tx : TE}
/-- the dict at d holds kv, now and while ε is at work -/
def DStay {κ α : Type} [PyKey κ] [Py α] (ε : Ef) (K : Fg) (W : Wd) (d : Addr) (kv : List (κ × α)) : Prop := ∀ W', Stp ε W W' → ∃ ks, W'.H d = some (.dK ks) ∧ KReps K W'.B ks kv
theorem DMut.stay (m : DMut K W d kv) (hS : d ∉ ε.S) : DStay ε K W d kv := fun _ g => (m.s g hS).ex
theorem DMut.pur (m : DMut K W d kv) : DStay pur K W d kv := fun _ g => (m.gr g.pure).ex
theorem DictAt.stay {D : Dict κ α} (h : DictAt K W (.ref d) D) : DStay ε K W d D.kv := fun W' g => by
  obtain ⟨a, ks, e, _, h2, r⟩ := h.s g
  cases e
  exact ⟨ks, h2, r⟩
/-- d.get(k, x) -/
theorem ev_dget2E {k : κ} {x : α} (hd : EvR ε K te σ W (Raw.mk (.ref d))) (m : DStay ε K W d kv) (hk : EvP ε ty σ W (fun u _ => u = kV (PyKey.key k))) (hx : EvR ε K tx σ W x) : EvR ε K (tDGet2 te ty tx) σ W ((klook kv k).getD x) := fun W1 g1 Q q => hd W1 g1 _ fun v W1' g1' e => by
  obtain ⟨ks, e1, r⟩ := m _ (g1.trans g1')
  refine ⟨d, e, .inl ⟨ks, .inl e1⟩, hk W1' (g1.trans g1') _ fun u W2 g2 eu => hx W2 ((g1.trans g1').trans g2) _ fun w W3 g3 rw => ?_⟩
  obtain ⟨ks, e3, r⟩ := m _ (((g1.trans g1').trans g2).trans g3)
  rcases klk r k with ⟨h1, h2⟩ | ⟨y, v, h1, h2, h3⟩
  · exact ⟨none, .inl ⟨ks, _, .inl e3, eu, h2.symm⟩, q _ W3 ((g1'.trans g2).trans g3) (by rw [h1]; exact rw)⟩
  · exact ⟨some v, .inl ⟨ks, _, .inl e3, eu, h2.symm⟩, q _ W3 ((g1'.trans g2).trans g3) (by rw [h1]; exact h3)⟩
/-- d[k] -/
theorem ev_dgetE {k : κ} {x : α} (hd : EvR ε K te σ W (Raw.mk (.ref d))) (m : DStay ε K W d kv) (hk : EvP ε ty σ W (fun u _ => u = kV (PyKey.key k))) (hx : klook kv k = some x) : EvR ε K (tDGet te ty) σ W x := fun W1 g1 Q q => hd W1 g1 _ fun v W1' g1' e => hk W1' (g1.trans g1') _ fun u W2 g2 eu => by
  obtain ⟨ks, e3, r⟩ := m _ ((g1.trans g1').trans g2)
  obtain ⟨v, h1, h2⟩ := r.some hx
  exact ⟨d, v, e, .inl ⟨ks, _, .inl e3, eu, h1.symm⟩, q _ W2 (g1'.trans g2) h2⟩
/-- k in d -/
theorem ev_dinE {k : κ} (hd : EvR ε K te σ W (Raw.mk (.ref d))) (m : DStay ε K W d kv) (hk : EvP ε ty σ W (fun u _ => u = kV (PyKey.key k))) : EvR ε K (tDIn ty te) σ W (decide (k ∈ kv.map (·.1))) := fun W1 g1 Q q => hk W1 g1 _ fun u W2 g2 eu => hd W2 (g1.trans g2) _ fun v W3 g3 e => by
  obtain ⟨ks, e3, r⟩ := m _ ((g1.trans g2).trans g3)
  rcases klk r k with ⟨h1, h2⟩ | ⟨y, v, h1, h2, h3⟩
  · refine ⟨d, none, e, .inl ⟨ks, _, .inl e3, eu, h2.symm⟩, q _ W3 (g2.trans g3) ?_⟩
    show V.bl _ = V.bl _
    rw [decide_eq_false (klook_none.mp h1)]; rfl
  · refine ⟨d, some v, e, .inl ⟨ks, _, .inl e3, eu, h2.symm⟩, q _ W3 (g2.trans g3) ?_⟩
    show V.bl _ = V.bl _
    rw [decide_eq_true (List.mem_map.mpr ⟨_, klook_mem h1, rfl⟩)]; rfl
/-- len(d) -/
theorem ev_lenDE (hd : EvR ε K te σ W (Raw.mk (.ref d))) (m : DStay ε K W d kv) : EvR ε K (tCB rLenD (tCons te tNil)) σ W (kv.length : Int) := fun W1 g1 Q q => hd W1 g1 _ fun v W2 g2 e => by
  obtain ⟨ks, e3, r⟩ := m _ (g1.trans g2)
  refine ⟨d, ks, by rw [show v = V.ref d from e], e3, ?_⟩
  rw [KReps.len r]
  exact q _ W2 g2 rfl
/-- d[k] = v -/
theorem s_dputE {D : Ends} {k : κ} {x : α} (hd : EvR pur K te σ W (Raw.mk (.ref d))) (m : DMut K W d kv) (hv : EvR pur K tv σ W x) (hk : EvP pur ty σ W (fun u _ => u = kV (PyKey.key k))) (hl : kv.length < 100000)
    (q : ∀ W', Md [d] W W' → On W W' → DMut K W' d (kput kv k x) → D.nx σ W'.H) : sDPut te ty tv D σ W.H := hv W (.start trivial) _ fun v W1 g1 rv => hd W1 g1 _ fun v0 W1' g1' e0 => hk W1' (g1.trans g1') _ fun u W2 g2 e => by
  have g := ((g1.trans g1').trans g2).pure
  obtain ⟨ks, e1, r⟩ := (m.gr g).ex
  have b := (m.gr g).b
  exact ⟨d, _, e0, .inl ⟨ks, PyKey.key k, e1, e, by rw [KReps.len r]; exact Evl.sz_lt hl, rfl⟩, q (W2.put d _ b) ((Grow.s g).trans (md_put b)) (g.on.trans (md_put b).on) ⟨b, _, upd_same, KReps.put r k (rep_s (g1'.trans g2) rv)⟩⟩
theorem q_dputE {D : Ends} {tz : TS} {k : κ} {x : α} (hd : EvR pur K te σ W (Raw.mk (.ref d))) (m : DMut K W d kv) (hv : EvR pur K tv σ W x) (hk : EvP pur ty σ W (fun u _ => u = kV (PyKey.key k))) (hl : kv.length < 100000)
    (q : ∀ W', Md [d] W W' → On W W' → DMut K W' d (kput kv k x) → tz D σ W'.H) : tSeq (sDPut te ty tv) tz D σ W.H := s_dputE (D := { D with nx := tz D }) hd m hv hk hl q
/-- d.pop(k), the value left alone -/
theorem s_dpopE {D : Ends} {k : κ} {x : α} (hd : EvR pur K te σ W (Raw.mk (.ref d))) (m : DMut K W d kv) (hk : EvP pur ty σ W (fun u _ => u = kV (PyKey.key k))) (hx : klook kv k = some x)
    (q : ∀ W', Md [d] W W' → On W W' → DMut K W' d (kdrop kv k) → D.nx σ W'.H) : tDrop (tDPop1 te ty) D σ W.H := hd W (.start trivial) _ fun v0 W1 g1 e0 => by
  obtain ⟨ks, e1, r⟩ := (m.gr g1.pure).ex
  refine ⟨d, e0, .inl ⟨ks, .inl e1⟩, hk W1 g1 _ fun u W2 g2 e => ?_⟩
  have g := (g1.trans g2).pure
  obtain ⟨ks, e1, r⟩ := (m.gr g).ex
  have b := (m.gr g).b
  obtain ⟨v, h1, h2⟩ := r.some hx
  exact ⟨ks, PyKey.key k, v, e1, e, h1, q (W2.put d _ b) ((Grow.s g).trans (md_put b)) (g.on.trans (md_put b).on) ⟨b, _, upd_same, KReps.drop r k⟩⟩
/-- d, where it is a dict that stays -/
theorem DictAt.mut' {v : V} {κ α : Type} [PyKey κ] [Py α] {D : Dict κ α} (h : DictAt K W v D) : ∃ a ks, v = .ref a ∧ W.H a = some (.dK ks) ∧ KReps K W.B ks D.kv := by
  obtain ⟨a, ks, e, _, h2, r⟩ := h
  exact ⟨a, ks, e, h2, r⟩
end
section
variable {κ : Type} [DecidableEq κ] [PyKey κ] {K : Fg} {W : Wd} {d : Addr} {kv : List (κ × Int)} {ε : Ef} {σ : SS} {te : TE}
/-- sum(d.values()) -/
theorem ev_sumVE (hd : EvR ε K te σ W (Raw.mk (.ref d))) (m : DStay ε K W d kv) : EvR ε K (tCB rSumV (tCons (tVals te) tNil)) σ W (kv.map (·.2)).sum := fun W1 g1 Q k => hd W1 g1 _ fun v W2 g2 e => by
  obtain ⟨ks, e3, r⟩ := m _ (g1.trans g2)
  refine ⟨d, ks, e, e3, fun v hv => ?_⟩
  refine ⟨v, d, ks, kv.map (·.2), rfl, upd_same, by rw [upd_ne (fun z => by rw [z, hv] at e3; cases e3)]; exact e3, kreps_ints r, ?_⟩
  exact k _ (W2.put v (viewHO v d) (W2.free hv)) (g2.and (W2.grow_put hv)) rfl
/-- min(d.values()) -/
theorem ev_minVE {i : Int} (hd : EvR ε K te σ W (Raw.mk (.ref d))) (m : DStay ε K W d kv) (h1 : i ∈ kv.map (·.2)) (h2 : ∀ y ∈ kv.map (·.2), i ≤ y) : EvR ε K (tCB rMinV (tCons (tVals te) tNil)) σ W i := fun W1 g1 Q k => hd W1 g1 _ fun v W2 g2 e => by
  obtain ⟨ks, e3, r⟩ := m _ (g1.trans g2)
  refine ⟨d, ks, e, e3, fun v hv => ?_⟩
  refine ⟨v, d, ks, kv.map (·.2), rfl, upd_same, by rw [upd_ne (fun z => by rw [z, hv] at e3; cases e3)]; exact e3, kreps_ints r, List.length_pos_of_mem h1, fun m' h3 h4 => ?_⟩
  have : m' = i := Int.le_antisymm (h4 i h1) (h2 m' h3)
  rw [this]
  exact k _ (W2.put v (viewHO v d) (W2.free hv)) (g2.and (W2.grow_put hv)) rfl
end
section
variable {κ α : Type} [PyKV κ] [Py α] {K : Fg} {W : Wd} {d : Addr} {kv : List (κ × α)} {ε : Ef} {σ : SS} {te : TE}
theorem kreps_keys {H H' : Hp} {ks : List (Key × V)} {kv : List (κ × α)} (r : KReps K H ks kv) : Reps K H' (ks.map fun q => kV q.1) (kv.map (·.1)) := by
  induction r with
  | nil => exact .nil
  | @cons p q _ _ a b ih => exact .cons (by show Py.rep K H' (kV p.1) q.1; rw [a.1]; exact PyKV.krep _ _ _) ih
/-- list(d) -/
theorem ev_listDE (hd : EvR ε K te σ W (Raw.mk (.ref d))) (m : DStay ε K W d kv) : EvR ε K (tCB rListD (tCons te tNil)) σ W (kv.map (·.1)) := fun W1 g1 Q q => hd W1 g1 _ fun v W2 g2 e => by
  obtain ⟨ks, e3, r⟩ := m _ (g1.trans g2)
  exact ⟨d, ks, by rw [show v = V.ref d from e], e3, fun p hp => q _ (W2.add p _) (g2.and (W2.grow_add hp)) ⟨p, _, rfl, upd_same, kreps_keys r⟩⟩
end
/-! ### keys in order -/
def sle (a b : Str) : Bool := decide (a.cps.toList ≤ b.cps.toList)
theorem sle_trans {a b c : Str} (h : sle a b = true) (h' : sle b c = true) : sle a c = true := by
  simp only [sle, decide_eq_true_eq] at *
  exact List.le_trans h h'
theorem sle_total (a b : Str) : sle a b = true ∨ sle b a = true := by
  simp only [sle, decide_eq_true_eq]
  exact List.le_total _ _
theorem sle_anti {a b : Str} (h : sle a b = true) (h' : sle b a = true) : a = b := by
  simp only [sle, decide_eq_true_eq] at *
  have := List.le_antisymm h h'
  cases a with
  | mk x => cases b with
    | mk y => exact congrArg Str.mk (Array.toList_inj.mp this)
theorem rising_pw : ∀ (r : List Str) (p : Str), PyProof.Rows.risingS p r = true → (p :: r).Pairwise (fun a b => sle a b = true)
  | [], p, _ => by simp
  | x :: r, p, h => by
    simp only [PyProof.Rows.risingS, Bool.and_eq_true, Bool.not_eq_true'] at h
    have ih := rising_pw r x h.2
    rw [List.pairwise_cons]
    have px : sle p x = true := by
      have := h.1
      rw [PyProof.Rows.ltCps_eq] at this
      have := of_decide_eq_false this
      simp only [sle, decide_eq_true_eq]
      exact List.not_lt.mp this
    refine ⟨fun a ha => ?_, ih⟩
    rcases List.mem_cons.mp ha with rfl | ha
    · exact px
    · exact sle_trans px ((List.pairwise_cons.mp ih).1 a ha)
theorem sorted_pw {ys : List Str} (h : PyProof.Rows.sortedS ys = true) : ys.Pairwise (fun a b => sle a b = true) := by
  cases ys with
  | nil => exact .nil
  | cons x r => exact rising_pw r x h
theorem str_sorted_uniq {xs ys : List Str} (hp : xs.Perm ys) (h1 : xs.Pairwise (fun a b => sle a b = true)) (h2 : ys.Pairwise (fun a b => sle a b = true)) : xs = ys :=
  hp.eq_of_pairwise (fun a b _ _ h h' => sle_anti h h') h1 h2
def sortS (xs : List Str) : List Str := xs.mergeSort sle
theorem sortS_perm (xs : List Str) : (sortS xs).Perm xs := List.mergeSort_perm _ _
theorem sortS_pw (xs : List Str) : (sortS xs).Pairwise (fun a b => sle a b = true) := List.pairwise_mergeSort (le := sle) (fun _ _ _ => sle_trans) (fun a b => by rcases sle_total a b with h | h <;> simp [h]) xs
theorem sortS_eq {xs ys : List Str} (hp : ys.Perm xs) (h : ys.Pairwise (fun a b => sle a b = true)) : ys = sortS xs := str_sorted_uniq (hp.trans (sortS_perm xs).symm) h (sortS_pw xs)
abbrev rSortedDS : List V → Hp → VK → Prop := fun xs H Q => ∃ (a : Addr) (kvs : List (Key × V)) (ks : List Str), xs = [.ref a] ∧ Rd H a (.dK kvs) ∧ kvs.map (·.1) = ks.map Sum.inr ∧ ks.length < 64 ∧ ∀ ys p, ys.Perm ks → PyProof.Rows.sortedS ys = true → H p = none → Q (.ref p) (upd H p (.lst (ys.map V.str)))
abbrev rSortedDI : List V → Hp → VK → Prop := fun xs H Q => ∃ (a : Addr) (kvs : List (Key × V)) (ks : List Int), xs = [.ref a] ∧ Rd H a (.dK kvs) ∧ kvs.map (·.1) = ks.map Sum.inl ∧ ks.length < 64 ∧ ∀ (ys : List Int) (p : Addr), ys.Perm ks → ys.Pairwise (· ≤ ·) → H p = none → Q (.ref p) (upd H p (.lst (ys.map V.int)))
theorem cr_sortedDS {X : Cx} (hc : X.calm = true := by rfl) : CallR X (.builtin "sorted") rSortedDS := call_sortedD hc
theorem cr_sortedDI {X : Cx} (hc : X.calm = true := by rfl) : CallR X (.builtin "sorted") rSortedDI := call_sortedDI hc
section
variable {α : Type} [Py α] {K : Fg} {W : Wd} {d : Addr} {ε : Ef} {σ : SS} {te : TE}
theorem kreps_keysS {H : Hp} {ks : List (Key × V)} {kv : List (Str × α)} (r : KReps K H ks kv) : ks.map (·.1) = (kv.map (·.1)).map Sum.inr := by
  induction r with
  | nil => rfl
  | cons a b ih => rw [List.map_cons, List.map_cons, List.map_cons, ih, a.1]; rfl
theorem kreps_keysI {H : Hp} {ks : List (Key × V)} {kv : List (Int × α)} (r : KReps K H ks kv) : ks.map (·.1) = (kv.map (·.1)).map Sum.inl := by
  induction r with
  | nil => rfl
  | cons a b ih => rw [List.map_cons, List.map_cons, List.map_cons, ih, a.1]; rfl
/-- sorted(d) -/
theorem ev_sortedDS {kv : List (Str × α)} (hd : EvR ε K te σ W (⟨kv⟩ : Dict Str α)) (hl : kv.length < 64) : EvR ε K (tCB rSortedDS (tCons te tNil)) σ W (sortS (kv.map (·.1))) := fun W1 g1 Q k => hd W1 g1 _ fun v W2 g2 ⟨a, ks, e, rd, r⟩ =>
  ⟨a, ks, kv.map (·.1), by rw [e], W2.sub.rd rd, kreps_keysS r, by simpa using hl, fun ys p h1 h2 hp => by
    rw [sortS_eq h1 (sorted_pw h2)]
    exact k _ (W2.add p _) (g2.and (W2.grow_add hp)) ⟨p, _, rfl, upd_same, str_reps _⟩⟩
theorem ev_sortedDI {kv : List (Int × α)} {ys : List Int} (hd : EvR ε K te σ W (⟨kv⟩ : Dict Int α)) (hl : kv.length < 64) (hp : ys.Perm (kv.map (·.1))) (ho : ys.Pairwise (· ≤ ·)) : EvR ε K (tCB rSortedDI (tCons te tNil)) σ W ys := fun W1 g1 Q k => hd W1 g1 _ fun v W2 g2 ⟨a, ks, e, rd, r⟩ =>
  ⟨a, ks, kv.map (·.1), by rw [e], W2.sub.rd rd, kreps_keysI r, by simpa using hl, fun zs p h1 h2 hp0 => by
    have e2 : zs = ys := (h1.trans hp.symm).eq_of_pairwise (fun a b _ _ h h' => Int.le_antisymm h h') h2 ho
    subst e2
    exact k _ (W2.add p _) (g2.and (W2.grow_add hp0)) ⟨p, _, rfl, upd_same, int_reps _⟩⟩
end
end B
/-! B: new dicts that may change: comprehensions with targets and tests, also over a locked dict -/
namespace B
open PySem L2
open PySem.W (Tup T3 T4 Datum DatumOrd)
open Evl (Ex)
/-- a new dict that may change -/
def EvM {κ α : Type} [DecidableEq κ] [PyKey κ] [Py α] (ε : Ef) (K : Fg) (te : TE) (σ : SS) (W : Wd) (kv : List (κ × α)) : Prop :=
  ∀ W1, Stp ε W W1 → ∀ Q : VK, (∀ p W2, Stp ε W1 W2 → W1.H p = none → DMut K W2 p kv → Q (.ref p) W2.H) → te σ W1.H Q
def kfill {κ α : Type} [DecidableEq κ] (l : List (κ × α)) : List (κ × α) := l.foldl (fun kv e => kput kv e.1 e.2) []
theorem kput_new {κ α : Type} [DecidableEq κ] {kv : List (κ × α)} {k : κ} {v : α} (h : k ∉ kv.map (·.1)) : kput kv k v = kv ++ [(k, v)] := by
  unfold kput
  rw [if_neg]
  intro z
  obtain ⟨q, h1, h2⟩ := List.any_eq_true.mp z
  exact h (List.mem_map.mpr ⟨q, h1, of_decide_eq_true h2⟩)
theorem kfill_app {κ α : Type} [DecidableEq κ] : ∀ (l kv : List (κ × α)), ((kv ++ l).map (·.1)).Nodup → l.foldl (fun kv e => kput kv e.1 e.2) kv = kv ++ l
  | [], kv, _ => by simp
  | e :: l, kv, n => by
    have h : e.1 ∉ kv.map (·.1) := by
      rw [List.map_append, List.nodup_append] at n
      intro z
      exact n.2.2 _ z e.1 (by simp) rfl
    rw [List.foldl_cons, kput_new h, kfill_app l (kv ++ [(e.1, e.2)]) (by simpa using n)]
    simp
theorem kfill_id {κ α : Type} [DecidableEq κ] {l : List (κ × α)} (n : (l.map (·.1)).Nodup) : kfill l = l := kfill_app l [] (by simpa using n)
theorem kfill_len {κ α : Type} [DecidableEq κ] : ∀ (l kv : List (κ × α)), (l.foldl (fun kv e => kput kv e.1 e.2) kv).length ≤ kv.length + l.length
  | [], kv => by simp
  | e :: l, kv => by
    rw [List.foldl_cons]
    have := kfill_len l (kput kv e.1 e.2)
    have := kput_len kv e.1 e.2
    rw [List.length_cons]; omega
section
variable {α β κ : Type} [Py α] [Py β] [DecidableEq κ] [PyKey κ] {K : Fg} {W : Wd} {σ : SS} {ε : Ef} {te tk tv : TE} {tt : TT} {wi : TI} {tg : TG} {vs : List Nat}
theorem EvM.toD {kv : List (κ × α)} (h : EvM ε K te σ W kv) : EvD ε K te σ W (⟨kv⟩ : Dict κ α) := fun W1 g1 Q k => h W1 g1 Q fun p W2 g2 f m => by
  obtain ⟨ks, e, r⟩ := m.ex
  exact k _ (W2.fix p _ e) (g2.fix f g1.i e m.b) ⟨p, ks, rfl, upd_same, e, KReps.mono (exExt (ex_fix e m.b)) r⟩
theorem EvM.is {kv kv' : List (κ × α)} (h : EvM ε K te σ W kv) (e : kv = kv') : EvM ε K te σ W kv' := e ▸ h
theorem em_new : EvM ε K tDNewK σ W ([] : List (κ × α)) := fun W1 g1 Q k p hp => k p (W1.put p (.dK []) (W1.free hp)) (g1.rf.and (W1.grow_put hp)) hp (DMut.new W1 hp)
theorem s_asgM {D : Ends} {i : Nat} {kv : List (κ × α)} (h : EvM ε K te σ W kv) (s : ε.I W) (k : ∀ p W', Stp ε W W' → W.H p = none → DMut K W' p kv → D.nx (σ.set i (some (.ref p))) W'.H) : tAsg te (gName i) D σ W.H := h W (.start s) _ k
theorem q_asgM {D : Ends} {tz : TS} {i : Nat} {kv : List (κ × α)} (h : EvM ε K te σ W kv) (s : ε.I W) (k : ∀ p W', Stp ε W W' → W.H p = none → DMut K W' p kv → tz D (σ.set i (some (.ref p))) W'.H) : tSeq (tAsg te (gName i)) tz D σ W.H := h W (.start s) _ k
theorem s_retM {D : Ends} {kv : List (κ × α)} (h : EvM ε K te σ W kv) (s : ε.I W) (k : ∀ p W', Stp ε W W' → W.H p = none → DMut K W' p kv → D.rt (.ref p) W'.H) : tRet te D σ W.H := h W (.start s) _ k
/-- {k: v for x in .. if t} -/
theorem em_dc {xs : List α} {p : α → Bool} {f : α → κ × β} {P : α → SS → SS → Wd → Prop} (hi : EvI ε K wi σ W xs) (hg : GT K tg P) (hw : ∀ x σ2 W', P x (wipe σ vs) σ2 W' → wipe σ2 vs = wipe σ vs)
    (ht : ∀ x W' σ2, x ∈ xs → Stp ε W W' → P x (wipe σ vs) σ2 W' → EvT ε tt σ2 W' (p x))
    (hk : ∀ x W' σ2, x ∈ xs → p x = true → Stp ε W W' → P x (wipe σ vs) σ2 W' → EvP ε tk σ2 W' (fun u _ => u = kV (PyKey.key (f x).1)))
    (he : ∀ x W' σ2, x ∈ xs → p x = true → Stp ε W W' → P x (wipe σ vs) σ2 W' → EvR ε K tv σ2 W' (f x).2)
    (hP : ∀ x σ2 W' W'', P x (wipe σ vs) σ2 W' → Stp ε W' W'' → P x (wipe σ vs) σ2 W'') (hl : xs.length < 100000) : EvM ε K (tDc wi tg tt tk tv vs) σ W (kfill ((xs.filter p).map f)) := fun W1 g1 Q k =>
  hi W1 g1 _ fun J S W2 g2 s2 sg src D hD => by
    have DS : D ∉ ε.S := Ef.off g2.i hD
    have ln : ∀ i, (kfill (((xs.take i).filter p).map f)).length ≤ i := fun i => by
      have h1 := kfill_len (((xs.take i).filter p).map f) ([] : List (κ × β))
      have h2 := List.length_filter_le p (xs.take i)
      have h3 : (xs.take i).length ≤ i := by rw [List.length_take]; omega
      rw [List.length_map] at h1
      have h4 : ([] : List (κ × β)).length = 0 := rfl
      unfold kfill
      omega
    refine ⟨fun i m H => m = xs.length - i ∧ i ≤ xs.length ∧ ∃ Wi, Wi.H = H ∧ Stp ε W2 Wi ∧ DMut K Wi D (kfill (((xs.take i).filter p).map f)), ⟨xs.length, rfl, Nat.zero_le _, W2.put D (.dK []) (W2.free hD), rfl, ⟨md_mut (.refl _ _) (W2.free hD) hD, i_put DS g2.i _⟩, DMut.new W2 hD⟩, ?_⟩
    rintro i m H ⟨rfl, hle, Wi, rfl, gi, dm⟩
    have si : S Wi := sg _ _ s2 gi
    by_cases hlt : i < xs.length
    · refine .inr ⟨src.go i Wi si hlt, fun H => i + 1 ≤ xs.length ∧ ∃ Wi, Wi.H = H ∧ Stp ε W2 Wi ∧ DMut K Wi D (kfill (((xs.take (i + 1)).filter p).map f)), fun H' h' => ⟨_, by omega, rfl, h'⟩, fun v H'' hy => ?_⟩
      obtain ⟨x, W3, rfl, g3', hx, r⟩ := src.yld i Wi v H'' si hlt hy
      have g3 : Stp ε Wi W3 := gi.rf.and g3'
      have hm : x ∈ xs := List.mem_of_getElem? hx
      have tkk : xs.take (i + 1) = xs.take i ++ [x] := by rw [List.take_add_one, hx]; rfl
      refine hg x v W3 _ _ r fun σ2 hp => ⟨hw x σ2 W3 hp, ?_⟩
      have G3 := ((g1.trans g2).trans gi).trans g3
      refine ht x W3 σ2 hm G3 hp W3 g3.rf _ fun W4 g4 => ?_
      have G4 := G3.trans g4
      cases hpx : p x with
      | true =>
        rw [if_pos rfl]
        refine hk x W4 σ2 hm hpx G4 (hP x σ2 W3 W4 hp g4) W4 g4.rf _ fun u W5 g5 eu => ?_
        refine he x W5 σ2 hm hpx (G4.trans g5) (hP x σ2 W4 W5 (hP x σ2 W3 W4 hp g4) g5) W5 g5.rf _ fun w W6 g6 rw' => ?_
        have G6 : Stp ε Wi W6 := ((g3.trans g4).trans g5).trans g6
        obtain ⟨ks, e6, r6⟩ := (dm.s G6 DS).ex
        have b6 := (dm.s G6 DS).b
        have ef : kfill (((xs.take (i + 1)).filter p).map f) = kput (kfill (((xs.take i).filter p).map f)) (f x).1 (f x).2 := by
          rw [tkk, List.filter_append, List.map_append]
          simp only [List.filter_cons, hpx, if_pos, List.filter_nil, List.map_cons, List.map_nil]
          unfold kfill
          rw [List.foldl_append]; rfl
        refine ⟨ks, PyKey.key (f x).1, eu, e6, by rw [KReps.len r6]; exact Evl.sz_lt (by have := ln i; omega), hlt, W6.put D _ b6, rfl, ⟨md_mut (gi.trans G6).md b6 hD, i_put DS G6.i _⟩, ⟨b6, _, upd_same, ?_⟩⟩
        rw [ef]
        exact KReps.put r6 (f x).1 rw'
      | false =>
        rw [if_neg Bool.false_ne_true]
        have ef : kfill (((xs.take (i + 1)).filter p).map f) = kfill (((xs.take i).filter p).map f) := by
          rw [tkk, List.filter_append, List.map_append]
          simp only [List.filter_cons, hpx, List.filter_nil, List.map_nil, List.append_nil, if_neg Bool.false_ne_true]
        exact ⟨hlt, W4, rfl, (gi.trans g3).trans g4, by rw [ef]; exact dm.s (g3.trans g4) DS⟩
    · have e : i = xs.length := by omega
      subst e
      rw [List.take_length] at dm
      exact .inl ⟨src.stop _ Wi si (Nat.le_refl _), k D Wi (g2.trans gi) (by
        cases e : W1.H D with
        | none => rfl
        | some o => exact absurd hD (g2.md.d D (by rw [e]; exact fun z => by cases z))) dm⟩
theorem em_dcN {j : Nat} {xs : List α} {p : α → Bool} {f : α → κ × β} (hi : EvI ε K wi σ W xs) (ht : ∀ x v W', x ∈ xs → Stp ε W W' → rep K W'.B v x → EvT ε tt ((wipe σ [j]).set j (some v)) W' (p x))
    (hk : ∀ x v W', x ∈ xs → p x = true → Stp ε W W' → rep K W'.B v x → EvP ε tk ((wipe σ [j]).set j (some v)) W' (fun u _ => u = kV (PyKey.key (f x).1)))
    (he : ∀ x v W', x ∈ xs → p x = true → Stp ε W W' → rep K W'.B v x → EvR ε K tv ((wipe σ [j]).set j (some v)) W' (f x).2) (hl : xs.length < 100000) : EvM ε K (tDc wi (gName j) tt tk tv [j]) σ W (kfill ((xs.filter p).map f)) :=
  em_dc (P := PN K j) hi gt_name (fun x σ2 W' ⟨v, _, e⟩ => by rw [e]; exact wipe1) (fun x W' σ2 hm g ⟨v, r, e⟩ => by rw [e]; exact ht x v W' hm g r) (fun x W' σ2 hm hp g ⟨v, r, e⟩ => by rw [e]; exact hk x v W' hm hp g r)
    (fun x W' σ2 hm hp g ⟨v, r, e⟩ => by rw [e]; exact he x v W' hm hp g r) (fun x σ2 W' W'' ⟨v, r, e⟩ g => ⟨v, rep_s g r, e⟩) hl
end
section
variable {α γ β κ : Type} [Py α] [Py β] [Py γ] [DecidableEq κ] [PyKey κ] {K : Fg} {W : Wd} {σ : SS} {ε : Ef} {te tk tv : TE} {tt : TT} {wi : TI}
theorem em_dcP {i j : Nat} {xs : List (α × γ)} {p : α × γ → Bool} {f : α × γ → κ × β} (hi : EvI ε K wi σ W xs) (ht : ∀ x v u W', x ∈ xs → Stp ε W W' → rep K W'.B v x.1 → rep K W'.B u x.2 → EvT ε tt (((wipe σ [i, j]).set i (some v)).set j (some u)) W' (p x))
    (hk : ∀ x v u W', x ∈ xs → p x = true → Stp ε W W' → rep K W'.B v x.1 → rep K W'.B u x.2 → EvP ε tk (((wipe σ [i, j]).set i (some v)).set j (some u)) W' (fun u _ => u = kV (PyKey.key (f x).1)))
    (he : ∀ x v u W', x ∈ xs → p x = true → Stp ε W W' → rep K W'.B v x.1 → rep K W'.B u x.2 → EvR ε K tv (((wipe σ [i, j]).set i (some v)).set j (some u)) W' (f x).2) (hl : xs.length < 100000) : EvM ε K (tDc wi (gPair K i j) tt tk tv [i, j]) σ W (kfill ((xs.filter p).map f)) :=
  em_dc (P := PP K i j) hi gt_pair (fun x σ2 W' ⟨v, u, _, _, e⟩ => by rw [e]; exact wipe2) (fun x W' σ2 hm g ⟨v, u, r, r', e⟩ => by rw [e]; exact ht x v u W' hm g r r') (fun x W' σ2 hm hp g ⟨v, u, r, r', e⟩ => by rw [e]; exact hk x v u W' hm hp g r r')
    (fun x W' σ2 hm hp g ⟨v, u, r, r', e⟩ => by rw [e]; exact he x v u W' hm hp g r r') (fun x σ2 W' W'' ⟨v, u, r, r', e⟩ g => ⟨v, u, rep_s g r, rep_s g r', e⟩) hl
end
/-! ### a comprehension over a dict that is locked meanwhile -/
section
variable {κ α : Type} [DecidableEq κ] [PyKey κ] [Py α] {K : Fg} {W : Wd} {σ : SS} {t : TE}
/-- locked, and free again behind it -/
theorem em_lock {d : Addr} {ks : List (Key × V)} {kv : List (κ × α)} (hd : W.H d = some (.dK ks)) (h : ∀ WL, Lk W WL d ks → WL.B d = W.B d → EvM pur K t σ WL kv) : EvM pur K (tLockE t) σ W kv := fun W1 g1' Q k => by
  have g1 := g1'.pure
  have hd1 := g1.h _ _ hd
  have hnt : Nt W.H d := .k hd
  refine ⟨d, _, hd1, trivial, fun od => ?_⟩
  have sub : Ext W1.B (upd W1.H d (.frz od (.dK ks))) := B.Ext.trans W1.sub (B.Ext.lock hd1)
  let WL : Wd := ⟨W1.B, upd W1.H d (.frz od (.dK ks)), sub⟩
  have off : ∀ a, a ≠ d → WL.H a = W1.H a := fun a q => upd_ne q
  refine h WL ⟨g1.b, ⟨od, upd_same⟩, fun a o q e => (off a q).trans (g1.h a o e)⟩ (g1.m d hnt) WL (.start trivial) _ fun p W2 g2' f m => ?_
  have g2 := g2'.pure
  have h2 : W2.H d = some (.frz od (.dK ks)) := g2.h _ _ upd_same
  refine ⟨h2, ?_⟩
  have hB : W2.B d = W1.B d := g2.m d ⟨.frz od (.dK ks), upd_same, fun _ z => by cases z⟩
  have pd : p ≠ d := fun z => by
    have f' : upd W1.H d (.frz od (.dK ks)) p = none := f
    rw [z, upd_same] at f'; cases f'
  have sub3 : Ext W2.B (upd W2.H d (.dK ks)) := fun a o e => by
    by_cases q : a = d
    · subst q
      rw [hB] at e
      rcases W1.sub a o e with h1 | ⟨⟨k', rfl⟩, ob, h1⟩
      · rw [hd1] at h1; cases h1; exact .inl upd_same
      · rw [hd1] at h1; cases h1
    · rw [upd_ne q]; exact W2.sub a o e
  have gr : Grow W1 ⟨W2.B, upd W2.H d (.dK ks), sub3⟩ := .mk g2.b (fun a o e => by
    show upd W2.H d (.dK ks) a = some o
    by_cases q : a = d
    · subst q; rw [hd1] at e; cases e; exact upd_same
    · rw [upd_ne q]; exact g2.h a o ((off a q).trans e)) fun a ha => g2.m a (by
      by_cases q : a = d
      · rw [q]; exact ⟨_, upd_same, fun _ z => by cases z⟩
      · obtain ⟨u, e, hu⟩ := ha
        exact ⟨u, (off a q).trans e, hu⟩)
  obtain ⟨ks2, e2, r2⟩ := m.ex
  exact k p _ (.of gr) ((off p pd).symm.trans f) ⟨m.b, ks2, (upd_ne pd).trans e2, r2⟩
end
end B
/-! jars, plainly: what is in them and what they lost, by the program's own steps and by hand -/
namespace B
open PySem L2
abbrev Ins := List (Str × Int)
abbrev Lots := List (Int × Int)
section
variable {κ α : Type} [DecidableEq κ]
theorem keys_put_old {kv : List (κ × α)} {k : κ} {v : α} (h : k ∈ kv.map (·.1)) : (kput kv k v).map (·.1) = kv.map (·.1) := by
  unfold kput
  rw [if_pos (by obtain ⟨q, h1, h2⟩ := List.mem_map.mp h; exact List.any_eq_true.mpr ⟨q, h1, by simp [h2]⟩), List.map_map]
  refine List.map_congr_left fun q _ => ?_
  show (if q.1 = k then (q.1, v) else q).1 = q.1
  split <;> rfl
theorem kput_twice {kv : List (κ × α)} {k : κ} {v w : α} : kput (kput kv k v) k w = kput kv k w := by
  by_cases h : k ∈ kv.map (·.1)
  · have h' : k ∈ (kput kv k v).map (·.1) := by rw [keys_put_old h]; exact h
    have e : ∀ {l : List (κ × α)} {u : α}, k ∈ l.map (·.1) → kput l k u = l.map (fun q => if q.1 = k then (q.1, u) else q) := fun {l u} hl => by
      unfold kput
      rw [if_pos (by obtain ⟨q, h1, h2⟩ := List.mem_map.mp hl; exact List.any_eq_true.mpr ⟨q, h1, by simp [h2]⟩)]
    rw [e h', e h, e h, List.map_map]
    refine List.map_congr_left fun q _ => ?_
    show (if (if q.1 = k then (q.1, v) else q).1 = k then _ else _) = _
    by_cases z : q.1 = k <;> simp [z]
  · rw [kput_new h, kput_new h]
    have h' : k ∈ (kv ++ [(k, v)]).map (·.1) := by simp
    unfold kput
    rw [if_pos (by obtain ⟨q, h1, h2⟩ := List.mem_map.mp h'; exact List.any_eq_true.mpr ⟨q, h1, by simp [h2]⟩), List.map_append]
    have : kv.map (fun q => if q.1 = k then (q.1, w) else q) = kv := by
      conv => rhs; rw [← List.map_id kv]
      refine List.map_congr_left fun q hq => ?_
      have : ¬ q.1 = k := fun z => h (List.mem_map.mpr ⟨q, hq, z⟩)
      simp [this]
    rw [this]
    simp
theorem klook_put_same {kv : List (κ × α)} {k : κ} {v : α} : klook (kput kv k v) k = some v := by rw [klook_put]; simp
theorem mem_keys_put {kv : List (κ × α)} {k : κ} {v : α} : k ∈ (kput kv k v).map (·.1) := by
  cases e : klook (kput kv k v) k with
  | some x => exact List.mem_map.mpr ⟨_, klook_mem e, rfl⟩
  | none => rw [klook_put_same] at e; cases e
end
/-- m of each taken off -/
def off (ins : Ins) (m : Int) : Ins := (ins.filter fun q => decide (q.2 > m)).map fun q => (q.1, q.2 - m)
def addLot (lost : Lots) (size t : Int) : Lots := kput lost size ((klook lost size).getD 0 + t)
def Fits (n : Nat) (ins : Ins) (name : Str) : Prop := name ∈ ins.map (·.1) ∨ ins.length < n
instance (n : Nat) (ins : Ins) (name : Str) : Decidable (Fits n ins name) := inferInstanceAs (Decidable (_ ∨ _))
/-- one letter more, by hand -/
def one (n : Nat) (name : Str) (s : Ins × Lots) : Ins × Lots :=
  if Fits n s.1 name then (kput s.1 name ((klook s.1 name).getD 0 + 1), s.2) else (off s.1 1, addLot s.2 (n + 1) 1)
def least : Ins → Int
  | [] => 1
  | [q] => q.2
  | q :: r => min q.2 (least r)
theorem least_le : ∀ (ins : Ins) (q), q ∈ ins → least ins ≤ q.2
  | [q], p, h => by rw [List.mem_singleton.mp h]; exact Int.le_refl _
  | q :: r :: s, p, h => by
    show min q.2 (least (r :: s)) ≤ p.2
    rcases List.mem_cons.mp h with rfl | h
    · exact Int.min_le_left _ _
    · exact Int.le_trans (Int.min_le_right _ _) (least_le (r :: s) p h)
theorem least_mem : ∀ (ins : Ins), ins ≠ [] → ∃ q ∈ ins, q.2 = least ins
  | [], h => absurd rfl h
  | [q], _ => ⟨q, by simp, rfl⟩
  | q :: r :: s, _ => by
    obtain ⟨p, hp, e⟩ := least_mem (r :: s) (by simp)
    show ∃ z ∈ q :: r :: s, z.2 = min q.2 (least (r :: s))
    rcases Int.le_total q.2 (least (r :: s)) with h | h
    · exact ⟨q, by simp, (Int.min_eq_left h).symm⟩
    · exact ⟨p, List.mem_cons_of_mem _ hp, by rw [Int.min_eq_right h]; exact e⟩
structure InsOk (names : List Str) (n : Nat) (ins : Ins) : Prop where
  nd : (ins.map (·.1)).Nodup
  pos : ∀ q ∈ ins, 0 < q.2
  mem : ∀ q ∈ ins, q.1 ∈ names
  len : ins.length ≤ n
  n1 : 1 ≤ n
theorem InsOk.least_pos {names : List Str} {n : Nat} {ins : Ins} (h : InsOk names n ins) : 0 < least ins := by
  by_cases e : ins = []
  · rw [e]; decide
  · obtain ⟨q, hq, z⟩ := least_mem ins e
    rw [← z]; exact h.pos q hq
theorem off_len (ins : Ins) (m : Int) : (off ins m).length ≤ ins.length := by
  unfold off
  rw [List.length_map]; exact List.length_filter_le _ _
theorem off_keys (ins : Ins) (m : Int) : (off ins m).map (·.1) = (ins.filter fun q => decide (q.2 > m)).map (·.1) := by
  unfold off
  rw [List.map_map]; rfl
theorem off_ok {names : List Str} {n : Nat} {ins : Ins} (h : InsOk names n ins) (m : Int) : InsOk names n (off ins m) where
  nd := by rw [off_keys]; exact List.Nodup.sublist ((List.filter_sublist).map _) h.nd
  pos := fun q hq => by
    obtain ⟨p, hp, rfl⟩ := List.mem_map.mp hq
    have := of_decide_eq_true (List.mem_filter.mp hp).2
    show 0 < p.2 - m; omega
  mem := fun q hq => by
    obtain ⟨p, hp, rfl⟩ := List.mem_map.mp hq
    exact h.mem p (List.mem_filter.mp hp).1
  len := Nat.le_trans (off_len ins m) h.len
  n1 := h.n1
theorem put_ok {names : List Str} {n : Nat} {ins : Ins} {name : Str} {v : Int} (h : InsOk names n ins) (hn : name ∈ names) (hv : 0 < v) (hf : Fits n ins name) : InsOk names n (kput ins name v) where
  nd := kput_keys_nodup h.nd
  pos := fun q hq => by
    rcases kput_mem hq with z | rfl
    · exact h.pos q z
    · exact hv
  mem := fun q hq => by
    rcases kput_mem hq with z | rfl
    · exact h.mem q z
    · exact hn
  len := by
    rcases hf with z | z
    · have := congrArg List.length (keys_put_old (v := v) z)
      rw [List.length_map, List.length_map] at this
      rw [this]; exact h.len
    · have := kput_len ins name v
      omega
  n1 := h.n1
theorem look_pos {names : List Str} {n : Nat} {ins : Ins} {name : Str} (h : InsOk names n ins) : 0 ≤ (klook ins name).getD 0 := by
  cases e : klook ins name with
  | none => exact Int.le_refl _
  | some v => exact Int.le_of_lt (h.pos _ (klook_mem e))
theorem one_ok {names : List Str} {n : Nat} {name : Str} {s : Ins × Lots} (h : InsOk names n s.1) (hn : name ∈ names) : InsOk names n (one n name s).1 := by
  unfold one
  split
  · rename_i f
    have := look_pos (name := name) h
    exact put_ok h hn (by omega) f
  · exact off_ok h 1
theorem off_off (ins : Ins) {a b : Int} (hb : 0 ≤ b) : off (off ins a) b = off ins (a + b) := by
  unfold off
  rw [List.filter_map, List.map_map, List.filter_filter]
  have e : (ins.filter fun q => ((fun q : Str × Int => decide (q.2 > b)) ∘ fun q => (q.1, q.2 - a)) q && decide (q.2 > a)) = ins.filter fun q => decide (q.2 > a + b) := by
    refine List.filter_congr fun q _ => ?_
    show (decide (q.2 - a > b) && decide (q.2 > a)) = decide (q.2 > a + b)
    rw [← Bool.decide_and]
    exact decide_eq_decide.mpr ⟨fun h => by omega, fun h => by omega⟩
  rw [e]
  refine List.map_congr_left fun q _ => ?_
  show (q.1, q.2 - a - b) = (q.1, q.2 - (a + b))
  rw [Int.sub_sub]
theorem addLot_twice (lost : Lots) (size a b : Int) : addLot (addLot lost size a) size b = addLot lost size (a + b) := by
  unfold addLot
  rw [kput_twice, klook_put_same]
  show kput lost size (_ + a + b) = _
  rw [Int.add_assoc]
/-- j at once, or one by one: while all stay in -/
theorem one_many {names : List Str} {n : Nat} {name : Str} {ins : Ins} {lost : Lots} (h : InsOk names n ins) (hf : ¬ Fits n ins name) : ∀ j : Nat, 1 ≤ j → (j : Int) ≤ least ins → Nat.repeat (one n name) j (ins, lost) = (off ins j, addLot lost (n + 1) j)
  | 0, h0, _ => absurd h0 (by decide)
  | 1, _, _ => by
    show one n name (ins, lost) = _
    unfold one
    rw [if_neg hf]; rfl
  | j + 2, _, hl => by
    have ih := one_many (lost := lost) h hf (j + 1) (by omega) (by omega)
    show one n name (Nat.repeat (one n name) (j + 1) (ins, lost)) = _
    rw [ih]
    have all : (ins.filter fun q => decide (q.2 > ((j + 1 : Nat) : Int))) = ins := List.filter_eq_self.mpr fun q hq => by
      have := least_le ins q hq
      exact decide_eq_true (by omega)
    have hf' : ¬ Fits n (off ins ((j + 1 : Nat) : Int)) name := by
      intro z
      rcases z with z | z
      · rw [off_keys, all] at z; exact hf (.inl z)
      · unfold off at z
        rw [List.length_map, all] at z; exact hf (.inr z)
    unfold one
    rw [if_neg hf']
    show (off (off ins _) 1, addLot (addLot lost _ _) _ 1) = _
    rw [off_off ins (by decide), addLot_twice]
    congr 2
theorem repeat_add {α : Type} (f : α → α) : ∀ (a b : Nat) (x : α), Nat.repeat f (a + b) x = Nat.repeat f b (Nat.repeat f a x)
  | a, 0, x => rfl
  | a, b + 1, x => by
    show f (Nat.repeat f (a + b) x) = f (Nat.repeat f b (Nat.repeat f a x))
    rw [repeat_add f a b x]
/-- fitting, t at once -/
theorem one_fit {n : Nat} {name : Str} {ins : Ins} {lost : Lots} (hf : Fits n ins name) : ∀ t : Nat, 1 ≤ t → Nat.repeat (one n name) t (ins, lost) = (kput ins name ((klook ins name).getD 0 + t), lost)
  | 0, h => absurd h (by decide)
  | 1, _ => by
    show one n name (ins, lost) = _
    unfold one
    rw [if_pos hf]; rfl
  | t + 2, _ => by
    show one n name (Nat.repeat (one n name) (t + 1) (ins, lost)) = _
    rw [one_fit hf (t + 1) (by omega)]
    unfold one
    rw [if_pos (.inl mem_keys_put)]
    show (kput (kput ins name _) name _, lost) = _
    rw [kput_twice, klook_put_same]
    show (kput ins name ((klook ins name).getD 0 + ((t + 1 : Nat) : Int) + 1), lost) = _
    rw [show (klook ins name).getD 0 + ((t + 1 : Nat) : Int) + 1 = (klook ins name).getD 0 + ((t + 2 : Nat) : Int) by omega]
/-- what the program's loop does in a turn is so many by hand -/
theorem turn_fit {n : Nat} {name : Str} {ins : Ins} {lost : Lots} {left : Nat} (hf : Fits n ins name) (h : 1 ≤ left) : Nat.repeat (one n name) left (ins, lost) = (kput ins name ((klook ins name).getD 0 + left), lost) := one_fit hf left h
theorem turn_off {names : List Str} {n : Nat} {name : Str} {ins : Ins} {lost : Lots} {left m : Nat} (h : InsOk names n ins) (hf : ¬ Fits n ins name) (h1 : 1 ≤ m) (hm : (m : Int) ≤ least ins) (hl : m ≤ left) :
    Nat.repeat (one n name) left (ins, lost) = Nat.repeat (one n name) (left - m) (off ins m, addLot lost (n + 1) m) := by
  rw [← one_many h hf m h1 hm, ← repeat_add]
  congr 1
  omega
end B
/-! jars, plainly: in the order of keys; how great all is -/
namespace B
open PySem L2
open PySem.W (Datum)
section
variable {κ : Type} [DecidableEq κ]
/-- the pairs in the order of keys ks -/
def byKeys (kv : List (κ × Int)) (ks : List κ) : List (κ × Int) := ks.map fun k => (k, (klook kv k).getD 0)
theorem byKeys_keys (kv : List (κ × Int)) (ks : List κ) : (byKeys kv ks).map (·.1) = ks := by
  unfold byKeys
  rw [List.map_map]
  exact List.map_id ks
theorem byKeys_self {kv : List (κ × Int)} (n : (kv.map (·.1)).Nodup) : byKeys kv (kv.map (·.1)) = kv := by
  unfold byKeys
  rw [List.map_map]
  conv => rhs; rw [← List.map_id kv]
  refine List.map_congr_left fun q hq => ?_
  show (q.1, (klook kv q.1).getD 0) = q
  rw [klook_of_mem (v := q.2) n hq]; rfl
theorem byKeys_perm {kv : List (κ × Int)} {ks : List κ} (n : (kv.map (·.1)).Nodup) (h : ks.Perm (kv.map (·.1))) : (byKeys kv ks).Perm kv := by
  have := h.map fun k => (k, (klook kv k).getD 0)
  rw [show (kv.map (·.1)).map (fun k => (k, (klook kv k).getD 0)) = kv from byKeys_self n] at this
  exact this
theorem mem_key_eq {kv : List (κ × Int)} (n : (kv.map (·.1)).Nodup) {a b : κ × Int} (ha : a ∈ kv) (hb : b ∈ kv) (e : a.1 = b.1) : a = b := by
  have h1 := klook_of_mem (v := a.2) n ha
  have h2 := klook_of_mem (v := b.2) n hb
  rw [e, h2] at h1
  exact Prod.ext e (Option.some.inj h1).symm
/-- two lists of the same pairs, with unlike keys, both in the order of the keys -/
theorem pairs_uniq {le : κ → κ → Bool} (anti : ∀ a b, le a b = true → le b a = true → a = b) {kv xs ys : List (κ × Int)} (n : (kv.map (·.1)).Nodup) (h1 : xs.Perm kv) (h2 : ys.Perm kv) (o1 : xs.Pairwise fun a b => le a.1 b.1 = true) (o2 : ys.Pairwise fun a b => le a.1 b.1 = true) : xs = ys :=
  (h1.trans h2.symm).eq_of_pairwise (fun a b ha hb h h' => mem_key_eq n (h1.mem_iff.mp ha) (h2.mem_iff.mp hb) (anti _ _ h h')) o1 o2
end
def srt (kv : Ins) : Ins := byKeys kv (sortS (kv.map (·.1)))
theorem srt_perm {kv : Ins} (n : (kv.map (·.1)).Nodup) : (srt kv).Perm kv := byKeys_perm n (sortS_perm _)
theorem srt_pw (kv : Ins) : (srt kv).Pairwise fun a b => sle a.1 b.1 = true := by
  have := sortS_pw (kv.map (·.1))
  unfold srt byKeys
  rw [List.pairwise_map]
  exact this
theorem srt_uniq {kv ys : Ins} (n : (kv.map (·.1)).Nodup) (h : ys.Perm kv) (o : ys.Pairwise fun a b => sle a.1 b.1 = true) : ys = srt kv := pairs_uniq (fun _ _ => sle_anti) n h (srt_perm n) o (srt_pw kv)
def sortI (xs : List Int) : List Int := xs.mergeSort fun a b => decide (a ≤ b)
theorem sortI_perm (xs : List Int) : (sortI xs).Perm xs := List.mergeSort_perm _ _
theorem sortI_pw (xs : List Int) : (sortI xs).Pairwise (· ≤ ·) := by
  have := List.pairwise_mergeSort (le := fun a b : Int => decide (a ≤ b)) (fun a b c h h' => by simp only [decide_eq_true_eq] at *; omega) (fun a b => by simp only [Bool.or_eq_true, decide_eq_true_eq]; omega) xs
  exact this.imp fun h => of_decide_eq_true h
def srtI (kv : Lots) : Lots := byKeys kv (sortI (kv.map (·.1)))
theorem srtI_perm {kv : Lots} (n : (kv.map (·.1)).Nodup) : (srtI kv).Perm kv := byKeys_perm n (sortI_perm _)
theorem srtI_pw (kv : Lots) : (srtI kv).Pairwise fun a b => a.1 ≤ b.1 := by
  have := sortI_pw (kv.map (·.1))
  unfold srtI byKeys
  rw [List.pairwise_map]
  exact this
theorem srtI_uniq {kv ys : Lots} (n : (kv.map (·.1)).Nodup) (h : ys.Perm kv) (o : ys.Pairwise fun a b => a.1 ≤ b.1) : ys = srtI kv :=
  pairs_uniq (le := fun a b => decide (a ≤ b)) (fun a b h h' => by simp only [decide_eq_true_eq] at *; omega) n h (srtI_perm n) (o.imp fun h => decide_eq_true h) ((srtI_pw kv).imp fun h => decide_eq_true h)
/-- what was lost: sizes above n, nine at most, each once -/
structure LotsOk (n : Nat) (lost : Lots) : Prop where
  nd : (lost.map (·.1)).Nodup
  ok : ∀ q ∈ lost, (n : Int) < q.1 ∧ q.1 ≤ 9 ∧ 0 < q.2
theorem LotsOk.len {n : Nat} {lost : Lots} (h : LotsOk n lost) : lost.length ≤ 10 := by
  have := nodup_le (l := lost.map (·.1)) (m := rng 0 10) h.nd fun x hx => by
    obtain ⟨q, hq, rfl⟩ := List.mem_map.mp hx
    have := h.ok q hq
    exact rng_mem.mpr ⟨by omega, by omega⟩
  rw [List.length_map, rng_len] at this
  exact this
theorem lot_ok {n : Nat} {lost : Lots} {t : Int} (h : LotsOk n lost) (hn : n ≤ 8) (ht : 0 < t) : LotsOk n (addLot lost (n + 1) t) := by
  have h0 : 0 ≤ (klook lost ((n : Int) + 1)).getD 0 := by
    cases e : klook lost ((n : Int) + 1) with
    | none => exact Int.le_refl _
    | some v => exact Int.le_of_lt (h.ok _ (klook_mem e)).2.2
  refine ⟨kput_keys_nodup h.nd, fun q hq => ?_⟩
  rcases kput_mem hq with z | rfl
  · exact h.ok q z
  · exact ⟨by show (n : Int) < n + 1; omega, by show (n : Int) + 1 ≤ 9; omega, by show 0 < _ + t; omega⟩
theorem one_lots {n : Nat} {name : Str} {s : Ins × Lots} (h : LotsOk n s.2) (hn : n ≤ 8) : LotsOk n (one n name s).2 := by
  unfold one
  split
  · exact h
  · exact lot_ok h hn (by decide)
/-- nothing is above b -/
structure Small (b : Int) (s : Ins × Lots) : Prop where
  i : ∀ q ∈ s.1, q.2 ≤ b
  l : ∀ q ∈ s.2, q.2 ≤ b
theorem one_small {n : Nat} {name : Str} {b : Int} {s : Ins × Lots} (h : Small b s) (hb : 0 ≤ b) : Small (b + 1) (one n name s) := by
  unfold one
  split
  · refine ⟨fun q hq => ?_, fun q hq => Int.le_trans (h.l q hq) (by omega)⟩
    rcases kput_mem hq with z | rfl
    · exact Int.le_trans (h.i q z) (by omega)
    · show _ + 1 ≤ b + 1
      cases e : klook s.1 name with
      | none => show (0 : Int) + 1 ≤ b + 1; omega
      | some v => have := h.i _ (klook_mem e); show v + 1 ≤ b + 1; have : v ≤ b := this; omega
  · refine ⟨fun q hq => ?_, fun q hq => ?_⟩
    · obtain ⟨p, hp, rfl⟩ := List.mem_map.mp hq
      have := h.i p (List.mem_filter.mp hp).1
      show p.2 - 1 ≤ b + 1; omega
    · rcases kput_mem hq with z | rfl
      · exact Int.le_trans (h.l q z) (by omega)
      · show _ + 1 ≤ b + 1
        cases e : klook s.2 ((n : Int) + 1) with
        | none => show (0 : Int) + 1 ≤ b + 1; omega
        | some v => have := h.l _ (klook_mem e); show v + 1 ≤ b + 1; have : v ≤ b := this; omega
/-- all that is kept of jars -/
structure JOk (names : List Str) (n : Nat) (b : Int) (s : Ins × Lots) : Prop where
  i : InsOk names n s.1
  l : LotsOk n s.2
  s : Small b s
  n8 : n ≤ 8
  b0 : 0 ≤ b
theorem one_jok {names : List Str} {n : Nat} {b : Int} {name : Str} {s : Ins × Lots} (h : JOk names n b s) (hn : name ∈ names) : JOk names n (b + 1) (one n name s) :=
  ⟨one_ok h.i hn, one_lots h.l h.n8, one_small h.s h.b0, h.n8, by have := h.b0; omega⟩
theorem many_jok {names : List Str} {n : Nat} {b : Int} {name : Str} {s : Ins × Lots} (h : JOk names n b s) (hn : name ∈ names) : ∀ t : Nat, JOk names n (b + t) (Nat.repeat (one n name) t s)
  | 0 => by rw [show b + ((0 : Nat) : Int) = b by omega]; exact h
  | t + 1 => by
    have := one_jok (many_jok h hn t) hn
    rw [show b + (t : Int) + 1 = b + ((t + 1 : Nat) : Int) by omega] at this
    exact this
theorem JOk.up {names : List Str} {n : Nat} {b c : Int} {s : Ins × Lots} (h : JOk names n b s) (hc : b ≤ c) : JOk names n c s := ⟨h.i, h.l, ⟨fun q hq => Int.le_trans (h.s.i q hq) hc, fun q hq => Int.le_trans (h.s.l q hq) hc⟩, h.n8, by have := h.b0; omega⟩
theorem fresh_jok (names : List Str) {n : Nat} (h1 : 1 ≤ n) (h8 : n ≤ 8) : JOk names n 0 ([], []) :=
  ⟨⟨.nil, fun _ h => by simp at h, fun _ h => by simp at h, Nat.zero_le _, h1⟩, ⟨.nil, fun _ h => by simp at h⟩, ⟨fun _ h => by simp at h, fun _ h => by simp at h⟩, h8, Int.le_refl _⟩
/-- sums of what is small -/
theorem sum_small : ∀ (xs : List Int) (b : Int), (∀ x ∈ xs, 0 ≤ x ∧ x ≤ b) → 0 ≤ xs.sum ∧ xs.sum ≤ xs.length * b
  | [], b, _ => by simp
  | x :: xs, b, h => by
    have h1 := h x List.mem_cons_self
    have h2 := sum_small xs b fun y hy => h y (List.mem_cons_of_mem _ hy)
    rw [List.sum_cons, List.length_cons]
    refine ⟨by omega, ?_⟩
    have : ((xs.length + 1 : Nat) : Int) * b = xs.length * b + b := by
      rw [Int.natCast_add, Int.add_mul]; simp
    omega
theorem log_small {i : Int} (h0 : 0 ≤ i) (h : i ≤ 1000000000000) : i.natAbs.log2 < 1920 := by
  have : i.natAbs < 2 ^ 50 := by omega
  by_cases z : i.natAbs = 0
  · rw [z]; decide
  · have := (Nat.log2_lt z).mpr this
    omega
end B
/-! B: repr of a list that holds dicts -/
namespace B
open PySem PySem.Spec PyProof.Rows L2
open PySem.W (Tup T3 T4 Datum DatumOrd)
def keyD : Key → PyData
  | .inl i => .int i
  | .inr x => .str x
/-- data; a dict of numbers, by the heap -/
inductive DpD (K : Fg) (H : Hp) : V → PyData → Prop
  | pl {v : V} {d : PyData} : Dp K H v d → d.hasDict = false → DpD K H v d
  | dc {a : Addr} {kv : List (Key × Int)} : Rd H a (.dK (kv.map fun q => (q.1, V.int q.2))) → DpD K H (.ref a) (.dict (kv.map fun q => (keyD q.1, PyData.int q.2)))
inductive DpDs (K : Fg) (H : Hp) : List V → List PyData → Prop
  | nil : DpDs K H [] []
  | cons {v : V} {d : PyData} {vs : List V} {ds : List PyData} : DpD K H v d → DpDs K H vs ds → DpDs K H (v :: vs) (d :: ds)
section
variable {X : Cx} {pins : List (Addr × Obj)} {σ : L2.St} {H : Hp} {s : Shared}
theorem flat_keys {P : Program} {w : World} {h : Heap} {es : List DictEntry} : ∀ {kv : List (Key × Int)} {vs : List (Key × Value)}, KV (kv.map fun q => (q.1, V.int q.2)) vs → Pairs (mixKind P w) es vs → ReadsAll h (es.map (·.key)) ((kv.map fun q => (keyD q.1, PyData.int q.2)).map (·.1)) [] ∧ ReadsAll h (es.map (·.val)) ((kv.map fun q => (keyD q.1, PyData.int q.2)).map (·.2)) [] := by
  intro kv vs hv hp
  induction hp generalizing kv with
  | nil =>
    cases kv with
    | nil => exact ⟨.nil, .nil⟩
    | cons q kv => cases hv
  | @cons e p es vs hk he _ ih =>
    cases kv with
    | nil => cases hv
    | cons q kv =>
      cases hv with
      | cons h1 h2 =>
        obtain ⟨i1, i2⟩ := ih h2
        obtain ⟨e1, e2⟩ := h1
        have e1 : q.1 = p.1 := e1
        obtain ⟨t, e2⟩ : ∃ t, p.2 = .int q.2 t := e2
        have kd : Reads h e.key (keyD q.1) [] := by
          rw [← e1] at hk
          have hk : keyIs q.1 e.key = true := hk
          rcases keyIs_shape hk with ⟨i, u, e3, e4⟩ | ⟨x, u, e3, e4⟩
          · rw [e3, e4]; exact .int i u
          · rw [e3, e4]; exact .str x u
        have vd : Reads h e.val (PyData.int q.2) [] := by rw [he, e2]; exact .int _ _
        exact ⟨.cons (as := []) (bs := []) kd i1, .cons (as := []) (bs := []) vd i2⟩
theorem DpD.reads (I : Inv X pins σ H s) {v : V} {u : Value} {d : PyData} (h : DpD X.K H v d) (r : RelV v u) : ∃ as, Reads s.heap u d as ∧ (d.hasDict = true → sysModules ∉ as) := by
  cases h with
  | pl hd hn =>
    obtain ⟨as, rd⟩ := Dp.reads I _ _ _ hd r
    exact ⟨as, rd, fun z => by rw [hn] at z; cases z⟩
  | @dc a kv e =>
    obtain rfl : u = Value.ref _ := r
    obtain ⟨_, hsys, vs, kvr, o, es, ep, ho, ex, hd, _, pr, _⟩ := dk_rd I.hok e
    obtain ⟨k1, k2⟩ := flat_keys (h := s.heap) kvr pr
    refine ⟨_, Reads.dict ho ex.1 hd k1 k2, fun _ hm => ?_⟩
    have : sysModules = a := by simpa using hm
    rw [← this] at hsys
    simp at hsys
theorem DpD.repr (I : Inv X pins σ H s) {v : V} {u : Value} {d : PyData} (h : DpD X.K H v d) (r : RelV v u) (hs : d.showable = true) (hz : d.shown.length ≤ sizeLine) : ∃ as, Reads s.heap u d as ∧ ∃ bs, ReadAtMost s.heap d.depth bs ∧ ReprK X.prog X.w bs s.heap d.depth u d.shown := by
  obtain ⟨as, rd, hn⟩ := h.reads I r
  exact ⟨as, rd, ReprK.of_reads rd hs hn hz⟩
theorem DpDs.repr (I : Inv X pins σ H s) : ∀ {vs : List V} {us : List Value} {ds : List PyData}, DpDs X.K H vs ds → Vals vs us → PyData.showableAll ds = true → (∀ t ∈ PyData.shownAll ds, t.length ≤ sizeLine) →
    (∃ as, ReadsAll s.heap us ds as) ∧ ∃ bs, ReadAtMost s.heap (PyData.depthAll ds) bs ∧ ReprAllK X.prog X.w bs s.heap (PyData.depthAll ds) us (PyData.shownAll ds)
  | _, _, _, .nil, .nil, _, _ => ⟨⟨_, .nil⟩, [], (fun _ h => nomatch h), by simp only [PyData.shownAll]; exact .nil⟩
  | _, _, _, .cons (d := d) (ds := ds) h hs', .cons r rs, hs, hz => by
    have hs2 : d.showable = true ∧ PyData.showableAll ds = true := by simpa [PyData.showableAll] using hs
    obtain ⟨as, rd, b1, hb1, k1⟩ := h.repr I r hs2.1 (hz _ (by simp only [PyData.shownAll]; exact List.mem_cons_self ..))
    obtain ⟨⟨as2, rds⟩, b2, hb2, k2⟩ := DpDs.repr I hs' rs hs2.2 fun t ht => hz t (by simp only [PyData.shownAll]; exact List.mem_cons_of_mem _ ht)
    refine ⟨⟨_, .cons rd rds⟩, b1 ++ b2, fun b hm => ?_, ?_⟩
    · simp only [PyData.depthAll]
      rcases List.mem_append.mp hm with hm | hm
      · obtain ⟨d', as', r', hd'⟩ := hb1 b hm
        exact ⟨d', as', r', Nat.le_trans hd' (Nat.le_max_left _ _)⟩
      · obtain ⟨d', as', r', hd'⟩ := hb2 b hm
        exact ⟨d', as', r', Nat.le_trans hd' (Nat.le_max_right _ _)⟩
    · simp only [PyData.depthAll, PyData.shownAll]
      exact .cons ((k1.more fun b hb => List.mem_append_left _ hb).level_le (Nat.le_max_left _ _)) (k2.more_le (fun b hb => List.mem_append_right _ hb) (Nat.le_max_right _ _))
end
section
variable {prog : Program} {w : World} {A : Around} {E : Value → Shared → Prop} {s : Shared}
theorem repr_listD {a : Addr} {o : Obj} {vs : List Value} {n : _} {d : List PyData} {az bs : List Addr} {Q : Value → Shared → Prop} (h1 : s.heap.get? a = some o) (h2 : o.cls = .type "list") (h3 : o.data = .seq vs.toArray n) (r : ReadsAll s.heap vs d az) (hb : ReadAtMost s.heap (PyData.depthAll d) bs) (hk : ReprAllK prog w bs s.heap (PyData.depthAll d) vs (PyData.shownAll d))
    (hg : A.guards = some []) (hu : A.units + 60 < cLine) (h40 : PyData.depthAll d ≤ 40) (hz : (listText (PyData.shownAll d)).length ≤ sizeLine)
    (hQ : ∀ h' u tk, (∀ b o, s.heap.get? b = some o → h'.get? b = some o) → Q (.str (listText (PyData.shownAll d)) u) { s with heap := h', toks := tk }) : wpAny (model prog w) A (call (.builtin "repr") [.ref a]) Q E s := by
  have r0 : Reads s.heap (.ref a) (.list d) (a :: az) := .list h1 h2 h3 (by simpa using r)
  have hna : a ∉ bs := not_mem_of_deeper r0 (by simp only [PyData.depth]; omega) hb
  have hTy : s.TypeIs (.ref a) "list" := ⟨o, h1, h2⟩
  refine Calls.call_function_entry F.kind_repr F.plain_repr F.entry_repr (F.args_repr1 _) ?_
  unfold Builtin.«repr»
  refine wpAny_bind (m := oneArg "repr" _) (wpAny_pure ?_)
  refine wpAny_bind (wpAny_cRoomFor (by show A.units + 1 < _; omega) ?_)
  refine wpAny_bind (wpAny_specialOf (name := Str.ofString "__repr__") hTy F.slot_list_repr.lookup ?_)
  have fin : ∀ h' u tk, (∀ b o, s.heap.get? b = some o → h'.get? b = some o) → wpAny (model prog w) A.in1 (isInstance (.str (listText (PyData.shownAll d)) u) (.type "str") >>= fun b => if b = true then ret (.str (listText (PyData.shownAll d)) u) else rule "repr.not-str" >>= fun _ => typeNameOf (.str (listText (PyData.shownAll d)) u) >>= fun nm => raiseError "TypeError" s!"__repr__ returned non-string (type {nm})")
      (fun fin s' => ∃ v, fin = .done (.ret v) ∧ Q v s') E { s with heap := h', toks := tk } := fun h' u tk hk =>
    wpAny_bind (wpAny_isInstance (T := "str") (b := true) rfl isSubtype_str_str (wpAny_pure ⟨_, rfl, hQ h' u tk hk⟩))
  refine wpAny_bind (m := callSpecialIfBound? (.ref a) (Str.ofString "__repr__")) (wpAny_callSpecialIfBound?_slot (name := Str.ofString "__repr__") hTy F.slot_list_repr ?_)
  cases vs with
  | nil =>
    cases r
    exact call_list_repr_empty hTy h1 h3 (fin s.heap _ _ fun _ _ e => e)
  | cons x l =>
    exact call_list_reprK h1 h2 h3 hna (by simpa using hk.length_eq) (fun i y e => hk.item i y (by simpa using e)) (show A.in1.guards = some [] from hg) (fun b _ => Clear.nil b) (by show A.units + 1 + _ < _; omega) (fun _ _ e => e) (fun h' u tk hk' => fin h' u tk hk') hz
end
def rReprD (K : Fg) : List V → Hp → VK → Prop := fun vs H Q => ∃ (a : Addr) (xs : List V) (d : List PyData), vs = [.ref a] ∧ SqL K H a xs ∧ DpDs K H xs d ∧ PyData.showableAll d = true ∧ PyData.depthAll d ≤ 40 ∧ (listText (PyData.shownAll d)).length ≤ sizeLine ∧ Q (.str (listText (PyData.shownAll d))) H
theorem cr_reprD {X : Cx} (hg : X.A.guards = some []) (hu : X.A.units + 64 < cLine) : CallR X (.builtin "repr") (rReprD X.K) := by
  intro pins s σ H xs us Q I r h
  obtain ⟨a, ys, d, rfl, hl, hd, h1, h3, h4, q⟩ := h
  obtain ⟨u, rfl, ru⟩ := vals1 r
  obtain rfl : u = Value.ref a := ru
  obtain ⟨its, rv, ⟨o, n, ho, hc, _, hdat⟩, _⟩ := I.list hl
  obtain ⟨⟨az, ra⟩, bs, hb, hk⟩ := hd.repr I rv h1 fun t ht => Nat.le_trans (listText_mem_le ht) h4
  exact repr_listD ho hc hdat ra hb hk hg (by omega) h3 h4 fun h' u tk hk => ⟨.str _, H, I.kept hk, ⟨_, rfl⟩, q⟩
mutual
theorem dp_ext {K : Fg} {H H' : Hp} (e : Ext H H') : ∀ (d : PyData) (v : V), Dp K H v d → Dp K H' v d
  | .none, _, h => by cases h; exact .non
  | .bool b, _, h => by cases h; exact .bl b
  | .int i, _, h => by cases h; exact .int i
  | .str x, _, h => by cases h; exact .str x
  | .list ds, _, h => by
    cases h with
    | lst hs ha => exact .lst (e.l hs) (dps_ext e ds _ ha)
  | .tuple ds, _, h => by
    cases h with
    | tup hs ha => exact .tup (e.t hs) (dps_ext e ds _ ha)
  | .dict _, _, h => by cases h
theorem dps_ext {K : Fg} {H H' : Hp} (e : Ext H H') : ∀ (ds : List PyData) (vs : List V), DpAll K H vs ds → DpAll K H' vs ds
  | [], _, h => by cases h; exact .nil
  | d :: ds, _, h => by
    cases h with
    | cons h1 h2 => exact .cons (dp_ext e d _ h1) (dps_ext e ds _ h2)
end
def rReprV (K : Fg) : List V → Hp → VK → Prop := fun vs H Q => ∃ (v : V) (d : PyData), vs = [v] ∧ DpD K H v d ∧ d.showable = true ∧ d.depth ≤ 40 ∧ d.shown.length ≤ sizeLine ∧ Q (.str d.shown) H
theorem cr_reprV {X : Cx} (hg : X.A.guards = some []) (hu : X.A.units + 64 < cLine) : CallR X (.builtin "repr") (rReprV X.K) := by
  intro pins s σ H xs us Q I r h
  obtain ⟨v, d, rfl, hd, h1, h3, h4, q⟩ := h
  obtain ⟨u, rfl, ru⟩ := vals1 r
  obtain ⟨as, rd, hn⟩ := hd.reads I ru
  have fin : ∀ tk u, EP X pins σ Q (.str d.shown u) { s with toks := tk } := fun tk u => ⟨.str _, H, I.kept (t' := tk) fun _ _ z => z, ⟨_, rfl⟩, q⟩
  cases rd with
  | none => exact P.repr_of_none (fin _ _)
  | bool b => exact P.repr_of_bool (fin _ _)
  | int i t => exact P.repr_of_int (by simpa [PyData.showable] using h1) (fin _ _)
  | str x t => exact P.repr_of_str (fin _ _) h4
  | list a1 a2 a3 a4 => exact repr_of_reads' (.list a1 a2 a3 a4) h1 hn hg (by omega) (fun _ _ e => e) (fun h' u tk hk => ⟨.str _, H, I.kept hk, ⟨_, rfl⟩, q⟩) h4
  | tuple a1 a2 a3 a4 => exact repr_of_reads' (.tuple a1 a2 a3 a4) h1 hn hg (by omega) (fun _ _ e => e) (fun h' u tk hk => ⟨.str _, H, I.kept hk, ⟨_, rfl⟩, q⟩) h4
  | dict a1 a2 a3 a4 a5 => exact repr_of_reads' (.dict a1 a2 a3 a4 a5) h1 hn hg (by omega) (fun _ _ e => e) (fun h' u tk hk => ⟨.str _, H, I.kept hk, ⟨_, rfl⟩, q⟩) h4
/-- data of which some are new dicts -/
inductive DpW (K : Fg) (W : Wd) : V → PyData → Prop
  | pl {v : V} {d : PyData} : Dp K W.B v d → d.hasDict = false → DpW K W v d
  | st {c : Addr} {kv : List (Str × Int)} : DMut K W c kv → DpW K W (.ref c) (.dict (kv.map fun q => (PyData.str q.1, PyData.int q.2)))
  | it {c : Addr} {kv : List (Int × Int)} : DMut K W c kv → DpW K W (.ref c) (.dict (kv.map fun q => (PyData.int q.1, PyData.int q.2)))
section
variable {K : Fg} {W W' : Wd} {σ : SS} {te : TE} {ta : TA}
theorem kreps_flat {κ : Type} [DecidableEq κ] [PyKey κ] {B : Hp} : ∀ {ks : List (Key × V)} {kv : List (κ × Int)}, KReps K B ks kv → ks = kv.map fun q => (PyKey.key q.1, V.int q.2)
  | [], [], .nil => rfl
  | p :: ks, q :: kv, .cons h r => by
    obtain ⟨e1, e2⟩ := h
    have e2 : p.2 = V.int q.2 := e2
    rw [List.map_cons, ← kreps_flat r, ← e1, ← e2]
theorem DpW.gr {v : V} {d : PyData} (h : DpW K W v d) (g : Grow W W') : DpW K W' v d := by
  cases h with
  | pl h n => exact .pl (dp_ext (exExt g.b) _ _ h) n
  | st m => exact .st (m.gr g)
  | it m => exact .it (m.gr g)
theorem DpW.d {v : V} {d : PyData} (h : DpW K W v d) : DpD K W.H v d := by
  cases h with
  | pl h n => exact .pl (dp_ext W.sub _ _ h) n
  | @st c kv m =>
    obtain ⟨ks, e, r⟩ := m.ex
    rw [kreps_flat r] at e
    have := DpD.dc (K := K) (H := W.H) (a := c) (kv := kv.map fun q => ((Sum.inr q.1 : Key), q.2)) (.inl (by rw [e, List.map_map]; rfl))
    rw [List.map_map] at this
    exact this
  | @it c kv m =>
    obtain ⟨ks, e, r⟩ := m.ex
    rw [kreps_flat r] at e
    have := DpD.dc (K := K) (H := W.H) (a := c) (kv := kv.map fun q => ((Sum.inl q.1 : Key), q.2)) (.inl (by rw [e, List.map_map]; rfl))
    rw [List.map_map] at this
    exact this
/-- a row of such data is made -/
def EvDs (K : Fg) (ta : TA) (σ : SS) (W : Wd) (ds : List PyData) : Prop := ∀ W1, Stp pur W W1 → ∀ Q : List V → Hp → Prop, (∀ us W2, Stp pur W1 W2 → (∀ W3, Grow W2 W3 → DpDs K W3.H us ds) → us.length = ds.length → Q us W2.H) → ta σ W1.H Q
theorem eds_nil : EvDs K tNil σ W [] := fun W1 g1 Q k => k [] W1 g1.rf (fun _ _ => .nil) rfl
theorem eds_cons {d : PyData} {ds : List PyData} (h : EvP pur te σ W (fun v W' => DpW K W' v d)) (hr : EvDs K ta σ W ds) : EvDs K (tCons te ta) σ W (d :: ds) := fun W1 g1 Q k =>
  h W1 g1 _ fun v W2 g2 p => hr W2 (g1.trans g2) _ fun us W3 g3 ps l => k (v :: us) W3 (g2.trans g3) (fun W4 g4 => .cons (p.gr (g3.pure.trans g4)).d (ps W4 g4)) (by rw [List.length_cons, l, List.length_cons])
theorem ed_pl {α : Type} [DecidableEq α] [Datum α] [Py α] [PyD α] {x : α} (h : EvR pur K te σ W x) (hn : (Datum.toD x).hasDict = false) : EvP pur te σ W (fun v W' => DpW K W' v (Datum.toD x)) := fun W1 g1 Q k => h W1 g1 Q fun v W2 g2 r => k v W2 g2 (.pl (PyD.dp r) hn)
theorem ed_st {kv : List (Str × Int)} (h : EvM pur K te σ W kv) : EvP pur te σ W (fun v W' => DpW K W' v (.dict (kv.map fun q => (PyData.str q.1, PyData.int q.2)))) := fun W1 g1 Q k => h W1 g1 Q fun p W2 g2 _ m => k _ W2 g2 (.st m)
theorem ed_it {kv : List (Int × Int)} (h : EvM pur K te σ W kv) : EvP pur te σ W (fun v W' => DpW K W' v (.dict (kv.map fun q => (PyData.int q.1, PyData.int q.2)))) := fun W1 g1 Q k => h W1 g1 Q fun p W2 g2 _ m => k _ W2 g2 (.it m)
/-- repr([..]), dicts in it -/
theorem ev_reprD {ds : List PyData} (h : EvDs K ta σ W ds) (hs : PyData.showableAll ds = true) (hd : PyData.depthAll ds ≤ 40) (hl : (listText (PyData.shownAll ds)).length ≤ 100000) (hn : ds.length ≤ 100000) : EvR pur K (tCB (rReprD K) (tCons (tLst ta) tNil)) σ W (listText (PyData.shownAll ds)) := fun W1 g1 Q k => h W1 g1 _ fun us W2 g2 ps l =>
  ⟨by rw [l]; exact Evl.sz_of hn, fun p hp => by
    let W3 := W2.add p (.lst us)
    have g3 : Grow W2 W3 := W2.grow_add hp
    exact ⟨p, us, ds, rfl, SqL.of upd_same, ps W3 g3, hs, hd, Evl.sz_of hl, k _ W3 (g2.trans (.of g3)) rfl⟩⟩
end
end B
/-! B: x not in a list of texts, x a thing of any kind -/
namespace PySem
namespace SeqAt
open AutoSeq1 (wpAny_loadPart')
open MeetsSeq
open PySem.Calls Builtin
theorem str_declines_dict (b : Str) (u : Tok) (l : Addr) (es : Array DictEntry) (n : Nat) (dd : Option Addr) (sl : Array (Option Value)) :
    Meets (Builtin.«str.__eq__» ⟨[.str b u, .ref l], []⟩) (fun _ R s => s.heap.get? l = some { cls := .type "dict", dict := dd, data := .dict es n, slots := sl } ∧ R (.ok (.ret .notImplemented)) s) :=
  .of_wp fun prog w A R s h => by
    obtain ⟨hp, g, d, tk, os⟩ := s
    obtain ⟨hl, h⟩ := h
    wp_walk using wpAny_loadPart' hl, wpAny_load hl
    exact ⟨_, rfl, h⟩
theorem dict_declines_str (l : Addr) (es : Array DictEntry) (n : Nat) (dd : Option Addr) (sl : Array (Option Value)) (b : Str) (u : Tok) :
    Meets (Builtin.«dict.__eq__» ⟨[.ref l, .str b u], []⟩) (fun _ R s => s.heap.get? l = some { cls := .type "dict", dict := dd, data := .dict es n, slots := sl } ∧ R (.ok (.ret .notImplemented)) s) :=
  .of_wp fun prog w A R s h => by
    obtain ⟨hp, g, d, tk, os⟩ := s
    obtain ⟨hl, h⟩ := h
    have f1 := F.sub_str_dict
    wp_walk using wpAny_loadPart' hl
    exact ⟨_, rfl, h⟩
theorem eq_str_dict {A : Around} {s : Shared} {l : Addr} {o : Obj} {es : Array DictEntry} {n : Nat} (b : Str) (u : Tok) (ho : s.heap.get? l = some o) (hc : o.cls = .type "dict") (hd : o.data = .dict es n) (hu : A.units < cLine) : EqAt A s (.str b u) (.ref l) false := fun prog w E Q h => by
  obtain ⟨cls, dd, data, sl⟩ := o
  simp only at hc hd
  subst hc hd
  unfold eqBool
  refine wpAny_holding ?_
  refine wpAny_ite_split (fun hab => absurd (eq_of_beq hab) nofun) (fun _ => ?_)
  refine wpAny_bind ?_
  exact rc_eq_decline_or (k := false) (typeIs_str s b u) ⟨_, ho, rfl⟩ (by decide) F.sub_dict_str F.slot_str_eq F.slot_dict_eq_refl
    (fun _ hq => call_meets F.slot_str_eq (typeIs_str s b u) F.entry_str_eq (F.args_str_eq_2 _ _) (str_declines_dict b u l es n dd sl) ⟨ho, hq⟩)
    (fun _ hq => call_meets F.slot_dict_eq_refl ⟨_, ho, rfl⟩ F.entry_dict_eq (F.args_dict_eq_2 _ _) (dict_declines_str l es n dd sl b u) ⟨ho, hq⟩)
    (fun _ hq => wpAny_of_eq (rfl : isSame (.str b u) (.ref l) = pure false) hq) (.inr hu) (wpAny_truthy_bool h)
end SeqAt
end PySem
namespace B
open PySem PySem.Spec PyProof.Rows L2
/-- a thing that is no text -/
def NotS (K : Fg) (H : Hp) (x : V) : Prop := x = .non ∨ (∃ b, x = .bl b) ∨ (∃ i, x = .int i) ∨ (∃ a xs, x = .ref a ∧ SqL K H a xs) ∨ (∃ a xs, x = .ref a ∧ SqT K H a xs) ∨ (∃ a ks, x = .ref a ∧ Rd H a (.dK ks))
/-- x not in ys, x a thing of any kind, ys texts -/
def rNinX (K : Fg) : R2 := fun x y H Q => rInTL K true x y H Q ∨ (NotS K H x ∧ ∃ (a : Addr) (ss : List Str), y = .ref a ∧ SqL K H a (ss.map V.str) ∧ Q (.bl true) H)
theorem vals_strs : ∀ {ss : List Str} {us : List Value}, Vals (ss.map V.str) us → ∀ u ∈ us, ∃ s t, u = .str s t
  | [], _, .nil, u, h => by cases h
  | s :: ss, _, .cons r rs, u, h => by
    rcases List.mem_cons.mp h with rfl | h
    · obtain ⟨t, e⟩ := r
      exact ⟨s, t, e⟩
    · exact vals_strs rs u h
theorem op_ninX {X : Cx} (hu : X.A.units + 64 < cLine) : OpR X (compareOp .NotIn) (rNinX X.K) := by
  intro pins s σ H x y v u Q I rx ry h
  rcases h with h | ⟨hn, a, ss, rfl, hl, q⟩
  · exact op_notInTL hu pins s σ H x y v u Q I rx ry h
  obtain rfl : u = Value.ref a := ry
  obtain ⟨its, rv, ⟨o, n, ho, hc, _, hd⟩, _⟩ := I.list hl
  have allS := vals_strs rv
  have hu1 : X.A.in1.units < cLine := by show X.A.units + 1 < _; omega
  have fin : ∀ {v : Value}, (∀ y, y ∈ its.toArray → SeqAt.EqAt X.A.in1 s y v false) → wpAny (model X.prog X.w) X.A (compareOp .NotIn v (.ref a)) (EP X pins σ Q) X.xe s := fun {v} he =>
    SeqAt.notIn_listAt (fun _ => false) ⟨o, ho, hc, n, hd⟩ he (by
      rw [show (its.toArray.any fun _ => false) = false by simp]
      exact ⟨.bl true, H, I, rfl, q⟩)
  have at_ : ∀ {y : Value}, y ∈ its.toArray → ∃ s t, y = .str s t := fun h => allS _ (by simpa using h)
  rcases hn with rfl | ⟨b, rfl⟩ | ⟨i, rfl⟩ | ⟨c, xs, rfl, hs⟩ | ⟨c, xs, rfl, hs⟩ | ⟨c, ks, rfl, hs⟩
  · obtain rfl : v = Value.none := rx
    exact fin fun y hy => by obtain ⟨s', t, rfl⟩ := at_ hy; exact SeqAt.EqAt.str_none _ _
  · obtain rfl : v = Value.bool b := rx
    exact fin fun y hy => by obtain ⟨s', t, rfl⟩ := at_ hy; exact SeqAt.EqAt.str_bool _ _ _
  · obtain ⟨t2, rfl⟩ := rx
    exact fin fun y hy => by obtain ⟨s', t, rfl⟩ := at_ hy; exact SeqAt.EqAt.str_int _ _ _ _
  · obtain rfl : v = Value.ref c := rx
    obtain ⟨its2, _, ⟨o2, n2, ho2, hc2, _, hd2⟩, _⟩ := I.list hs
    exact fin fun y hy => by obtain ⟨s', t, rfl⟩ := at_ hy; exact SeqAt.EqAt.str_list _ _ ⟨o2, ho2, hc2, n2, hd2⟩ hu1
  · obtain rfl : v = Value.ref c := rx
    obtain ⟨its2, _, ⟨o2, ho2, hc2, n2, hd2⟩, _⟩ := I.tuple hs
    exact fin fun y hy => by obtain ⟨s', t, rfl⟩ := at_ hy; exact SeqAt.EqAt.str_tuple _ _ ⟨o2, ho2, hc2, n2, hd2⟩ hu1
  · obtain rfl : v = Value.ref c := rx
    obtain ⟨_, _, vs, _, o2, es, ep, ho2, ex, hd2, _⟩ := dk_rd I.hok hs
    exact fin fun y hy => by obtain ⟨s', t, rfl⟩ := at_ hy; exact SeqAt.eq_str_dict _ _ ho2 ex.1 hd2 hu1
end B
/-! B: x in range(..), x a thing of any kind -/
namespace PySem
namespace SeqAt
open AutoSeq1 (wpAny_loadPart')
open MeetsSeq MeetsSeq2 MeetsSeq3 SeqRoads2
open PySem.Calls Builtin
section
variable {prog : Program} {w : World}
theorem plain_rng_loop : plainId "range.__contains__.loop" = true := by decide +kernel
theorem entry_rng_loop : entryFor table "range.__contains__.loop" = some Builtin.«range.__contains__.loop» := entryFor_of_fast (by kernel_rfl)
theorem rng_size (lo : Int) (n : Nat) : Builtin.Range.rangeSize lo (lo + n) 1 = n := by
  unfold Builtin.Range.rangeSize
  rw [if_pos (by decide)]
  by_cases h : lo < lo + n
  · rw [if_pos h, Int.ediv_one]; omega
  · rw [if_neg h]; omega
theorem rng_loop (r : Addr) (x : Value) (lo : Int) (n : Nat) (t u v : Tok) (k : Nat) :
    ∀ i : Nat, n - i = k → MeetsIn prog w (Builtin.«range.__contains__.loop» ⟨[.ref r, x, rawInt i], []⟩)
      (fun A R s => s.heap.get? r = some { cls := .type "range", dict := none, data := .fields #[.int lo t, .int (lo + n) u, .int 1 v], slots := #[] } ∧
        (∀ tk c tv, EqAt A.in1 { s with toks := tk } (.int c tv) x false) ∧ ∀ tk, R (.ok (.ret (.bool false))) { s with toks := tk }) := by
  induction k with
  | zero =>
    intro i hk A R s h
    obtain ⟨hp, g, d, tk, os⟩ := s; obtain ⟨hl, he, h⟩ := h
    wp_walk using wpAny_loadPart' hl
    rw [rng_size]
    refine wpAny_ite_true (decide_eq_true (by omega)) ?_
    wp_walk
    exact h tk
  | succ k ih =>
    intro i hk A R s h
    obtain ⟨hp, g, d, tk, os⟩ := s; obtain ⟨hl, he, h⟩ := h
    wp_walk using wpAny_loadPart' hl
    rw [rng_size]
    refine wpAny_ite_false (decide_eq_false (by omega)) ?_
    refine wpAny_bind (wpAny_mkInt (wpAny_bind (he (tk + 1) _ tk prog w _ _ ?_)))
    rw [if_neg Bool.false_ne_true, show (i : Int) + 1 = ((i + 1 : Nat) : Int) from by omega]
    wp_walk
    exact ⟨plainId_quiet plain_rng_loop _, codeAny_builtin entry_rng_loop (by
      rw [Around.under_plainId plain_rng_loop _]
      exact ih (i + 1) (by omega) A R _ ⟨hl, fun tk2 => he tk2, fun tk2 => h tk2⟩)⟩
theorem rng_cont (r : Addr) (x : Value) (lo : Int) (n : Nat) (t u v : Tok) (hx : Builtin.Range.rangeExactInt? x = none) :
    MeetsIn prog w (Builtin.«range.__contains__» ⟨[.ref r, x], []⟩)
      (fun A R s => s.heap.get? r = some { cls := .type "range", dict := none, data := .fields #[.int lo t, .int (lo + n) u, .int 1 v], slots := #[] } ∧
        (∀ tk c tv, EqAt A.in1 { s with toks := tk } (.int c tv) x false) ∧ ∀ tk, R (.ok (.ret (.bool false))) { s with toks := tk }) := by
  intro A R s h
  obtain ⟨hp, g, d, tk, os⟩ := s; obtain ⟨hl, he, h⟩ := h
  unfold Builtin.«range.__contains__»
  wp_walk
  rw [hx]
  wp_walk
  exact ⟨plainId_quiet plain_rng_loop _, codeAny_builtin entry_rng_loop (by
    rw [Around.under_plainId plain_rng_loop _]
    exact rng_loop r x lo n t u v _ 0 rfl A R _ ⟨hl, fun tk2 => he tk2, fun tk2 => h tk2⟩)⟩
end
end SeqAt
end PySem
namespace B
open PySem PySem.Spec PyProof.Rows L2
/-- a thing that is no number -/
def NotI (K : Fg) (H : Hp) (x : V) : Prop := x = .non ∨ (∃ b, x = .str b) ∨ (∃ a xs, x = .ref a ∧ SqL K H a xs) ∨ (∃ a xs, x = .ref a ∧ SqT K H a xs)
/-- range(i, j) as a value -/
abbrev rRng2 : List V → Hp → VK → Prop := fun vs H Q => ∃ i j, vs = [V.int i, V.int j] ∧ ∀ p, H p = none → Q (.ref p) (upd H p (.rng i j))
/-- x in range(lo, lo + n) -/
def rInRngX (K : Fg) : R2 := fun x y H Q => ∃ (a : Addr) (lo : Int) (n : Nat), y = V.ref a ∧ H a = some (.rng lo (lo + n)) ∧ ((∃ i, x = V.int i ∧ Q (.bl (decide (lo ≤ i ∧ i < lo + n))) H) ∨ (∃ b, x = V.bl b ∧ Q (.bl (decide (lo ≤ (if b then (1 : Int) else 0) ∧ (if b then (1 : Int) else 0) < lo + n))) H) ∨ (NotI K H x ∧ Q (.bl false) H))
theorem q_containsB (r : Addr) (a b : Int) (i : Bool) (t u v : Tok) :
    Meets (Builtin.«range.__contains__» ⟨[.ref r, .bool i], []⟩) (fun _ R s => s.heap.get? r = some { cls := .type "range", dict := none, data := .fields #[.int a t, .int b u, .int 1 v], slots := #[] } ∧ R (.ok (.ret (.bool (Builtin.Range.rangePlace? a b 1 (if i then 1 else 0)).isSome))) s) :=
  .of_wp fun prog w A R s h => by obtain ⟨hp, g, d, tk, os⟩ := s; obtain ⟨hl, h⟩ := h; wp_walk; exact ⟨_, rfl, h⟩
theorem op_inRngX {X : Cx} (hu : X.A.units + 64 < cLine) : OpR X (compareOp .In) (rInRngX X.K) := by
  intro pins s σ H x y v u Q I rx ry h
  obtain ⟨a, lo, n, rfl, ha, h⟩ := h
  rcases h with ⟨i, rfl, q⟩ | ⟨b, rfl, q⟩ | ⟨hn, q⟩
  · exact op_in_rng pins s σ H _ _ v u Q I rx ry ⟨i, a, lo, lo + n, rfl, rfl, ha, q⟩
  · obtain rfl : v = Value.bool b := rx
    obtain rfl : u = Value.ref a := ry
    obtain ⟨t1, t2, t3, ho⟩ := I.hok a _ ha
    show wpAny _ _ (do return Value.bool (← contains (Value.ref a) (Value.bool b))) _ _ s
    refine wpAny_bind (wpAny_contains_slot (T := "range") ⟨_, ho, rfl⟩ F.slot_range_contains (call_meets F.slot_range_contains ⟨_, ho, rfl⟩ F.entry_range_contains (F.args_range_contains_2 _ _) (q_containsB a lo (lo + n) b t1 t2 t3)
      ⟨ho, wpAny_truthy_bool (wpAny_pure ⟨.bl _, H, I, rfl, ?_⟩)⟩))
    rw [place1]
    exact q
  · obtain rfl : u = Value.ref a := ry
    obtain ⟨t1, t2, t3, ho⟩ := I.hok a _ ha
    have hu1 : X.A.in1.units < cLine := by show X.A.units + 1 < _; omega
    have hu2 : X.A.in1.in1.units < cLine := by show X.A.units + 1 + 1 < _; omega
    have fin : Builtin.Range.rangeExactInt? v = none → (∀ tk c tv, SeqAt.EqAt X.A.in1 { s with toks := tk } (.int c tv) v false) → wpAny (model X.prog X.w) X.A (compareOp .In v (.ref a)) (EP X pins σ Q) X.xe s := fun hx he => by
      show wpAny _ _ (do return Value.bool (← contains (Value.ref a) v)) _ _ s
      exact wpAny_bind (wpAny_contains_slot (T := "range") ⟨_, ho, rfl⟩ F.slot_range_contains (call_meetsIn F.slot_range_contains ⟨_, ho, rfl⟩ F.entry_range_contains (F.args_range_contains_2 _ _) (SeqAt.rng_cont a v lo n t1 t2 t3 hx)
        ⟨ho, he, fun tk => wpAny_truthy_bool (wpAny_pure ⟨.bl false, H, I.kept (t' := tk) fun _ _ z => z, rfl, q⟩)⟩))
    rcases hn with rfl | ⟨b, rfl⟩ | ⟨c, xs, rfl, hs⟩ | ⟨c, xs, rfl, hs⟩
    · obtain rfl : v = Value.none := rx
      exact fin rfl fun tk c tv => SeqAt.EqAt.int_none _ _
    · obtain ⟨t2, rfl⟩ := rx
      exact fin rfl fun tk c tv => SeqAt.EqAt.int_str _ _ _ _
    · obtain rfl : v = Value.ref c := rx
      obtain ⟨its2, _, ⟨o2, n2, ho2, hc2, _, hd2⟩, _⟩ := I.list hs
      exact fin rfl fun tk c tv => SeqAt.EqAt.int_list _ _ ⟨o2, ho2, hc2, n2, hd2⟩ hu1
    · obtain rfl : v = Value.ref c := rx
      obtain ⟨its2, _, ⟨o2, ho2, hc2, n2, hd2⟩, _⟩ := I.tuple hs
      exact fin rfl fun tk c tv => SeqAt.EqAt.int_tuple _ _ ⟨o2, ho2, hc2, n2, hd2⟩ hu1
/-- x is not a truth, x a truth or a number -/
def oNotIsX : R2 := fun x y H Q => (∃ a b, x = .bl a ∧ y = .bl b ∧ Q (.bl (!decide (a = b))) H) ∨ (∃ i b, x = .int i ∧ y = .bl b ∧ Q (.bl true) H)
theorem op_notIsX {X : Cx} : OpR X (compareOp .IsNot) oNotIsX := by
  intro pins s σ H x y v u Q I rx ry h
  rcases h with h | ⟨i, b, rfl, rfl, q⟩
  · exact op_isnot_bl pins s σ H x y v u Q I rx ry h
  · obtain ⟨t, rfl⟩ := rx
    cases (show u = Value.bool b from ry)
    exact wpAny_isNot_other rfl (fun z => nomatch z) ⟨.bl true, H, I, rfl, q⟩
/-! ### tuple * 0 or 1 -/
theorem tuple_mul0 (l : Addr) (items : Array Value) (n : Nat) (dd : Option Addr) (sl : Array (Option Value)) (u : Tok) (hne : items.isEmpty = false) :
    Meets (Builtin.«tuple.__mul__» ⟨[.ref l, .int 0 u], []⟩) (fun _ R s => s.heap.get? l = some { cls := .type "tuple", dict := dd, data := .seq items n, slots := sl } ∧
      R (.ok (.ret (Value.ref s.heap.objs.size))) { s with heap := s.heap.push { cls := Value.type "tuple", data := Data.seq #[] }, toks := s.toks }) :=
  .of_wp fun prog w A R s h => by
    obtain ⟨hp, g, d, tk, os⟩ := s
    obtain ⟨hl, h⟩ := h
    have f1 := AutoSeq1.idx_int
    have c1 : (items.isEmpty || (0 : Int) == 1) = false := by rw [hne]; rfl
    wp_walk using AutoSeq1.wpAny_loadPart' hl
    repeat (first
      | (refine wpAny_ite_false (decide_eq_false (by rw [c1]; exact Bool.false_ne_true)) ?_; wp_walk using AutoSeq1.wpAny_loadPart' hl))
    exact ⟨_, rfl, h⟩
def rRepT01 (K : Fg) : R2 := fun x y H Q => ∃ l k xs, x = .ref l ∧ y = .int k ∧ SqT K H l xs ∧ xs ≠ [] ∧ xs.length ≤ 1000 ∧ ((k = 1 ∧ Q (.ref l) H) ∨ (k = 0 ∧ ∀ p, H p = none → Q (.ref p) (upd H p (.tup []))))
theorem op_repT01 {X : Cx} : OpR X (binaryOp .Mult) (rRepT01 X.K) := by
  intro pins s σ H x y v u Q I rx ry h
  obtain ⟨l, k, xs, rfl, rfl, hT, hne, hz, h⟩ := h
  rcases h with ⟨rfl, q⟩ | ⟨rfl, q⟩
  · exact op_repT1 pins s σ H _ _ v u Q I rx ry ⟨l, 1, xs, rfl, rfl, hT, hne, by decide, by decide, hz, fun _ => q, fun z => absurd z (by decide)⟩
  · cases rx
    obtain ⟨t, rfl⟩ := ry
    obtain ⟨its, r, ⟨⟨cls, dd, data, sl⟩, ho, hc, n, hd⟩, hs⟩ := I.tuple hT
    simp only at hc hd
    subst hc hd
    have hle : its.length = xs.length := r.length.symm
    have hi : its.toArray.isEmpty = false := by
      cases its with
      | nil => exact absurd (List.eq_nil_of_length_eq_zero hle.symm) hne
      | cons a b => rfl
    refine wpAny_binaryOp_repeat_ref (T := "tuple") (U := "int") (by decide) ⟨_, ho, rfl⟩ (fun s' => typeIs_int s' 0 t) noFill_tuple_mul F.fills_int_mul F.slot_int_rmul repeat_tuple F.slot_int_index.lookup
      (call_meets F.slot_int_rmul (typeIs_int s 0 t) F.entry_int_rmul (F.args_int_rmul_2 _ _) (int_rmul_tuple 0 t l its.toArray n dd sl)
        ⟨ho, rfl, ⟨_, ho, rfl⟩, call_meets F.slot_tuple_mul ⟨_, ho, rfl⟩ F.entry_tuple_mul (F.args_tuple_mul_2 _ _) (tuple_mul0 l its.toArray n dd sl t hi) ⟨ho, ?_⟩⟩)
    exact ⟨.ref s.heap.objs.size, _, I.laid (t' := s.toks) (o := .tup []) (fun b ob q => Heap.get?_push_of_some _ q) (Nat.le_refl _) ⟨by decide, [], .nil, IsTup.new _ _⟩, rfl, q _ (I.hok.fresh (Nat.le_refl _))⟩
/-- a row of one, once or not at all -/
theorem ev_rep01 {α : Type} [Py α] {K : Fg} {ε : Ef} {W : Wd} {σ : SS} {ta tb : TE} {x : α} {b : Bool} (ha : EvR ε K ta σ W (PySem.W.Tup.mk [x])) (hb : EvR ε K tb σ W b) : EvR ε K (tOp (rRepT01 K) ta (tCB rInt1 (tCons tb tNil))) σ W (PySem.W.Tup.mk (if b then [x] else [])) := fun W1 g1 Q k =>
  ha W1 g1 _ fun v W2 g2 rv => hb W2 (g1.trans g2) _ fun u W3 g3 ru => .inr ⟨b, by rw [show u = V.bl b from ru], by
    have rv3 := rep_s g3 rv
    obtain ⟨a, vs, e, s, r⟩ := id rv3
    have hl := Reps.len r
    refine ⟨a, _, vs, e, rfl, SqT.of (W3.sub.et s), fun z => by rw [z] at hl; simp at hl, by rw [hl]; show 1 ≤ 1000; decide, ?_⟩
    cases b with
    | true => exact .inl ⟨rfl, k _ W3 (g2.trans g3) (by rw [← e]; exact rv3)⟩
    | false => exact .inr ⟨rfl, fun p hp => k _ (W3.add p (.tup [])) ((g2.trans g3).and (W3.grow_add hp)) ⟨p, [], rfl, upd_same, .nil⟩⟩⟩
end B
/-! the draws of the laws: begun, draw -/
namespace B
open PySem L2
open Evl (Ex)
/-- what begins: the list at p holds the cells' list (at c), the place, the mixed number -/
structure St3 (W : Wd) (p c : Addr) : Prop where
  bp : W.B p = none
  bc : W.B c = none
  ne : p ≠ c
  ex : ∃ (a m : Int) (cs : List Int), W.H p = some (.lst [.ref c, .int a, .int m]) ∧ W.H c = some (.lst (cs.map V.int)) ∧ cs ≠ [] ∧ (∀ x ∈ cs, 0 ≤ x) ∧ 0 ≤ a ∧ 0 ≤ m ∧ m < 2147483647
/-- the state of draws: the list at p holds the cells' list (at c), the place, the mixed number -/
structure St (W : Wd) (p c : Addr) : Prop where
  bp : W.B p = none
  bc : W.B c = none
  ne : p ≠ c
  ex : ∃ (a m t : Int) (cs : List Int), W.H p = some (.lst [.ref c, .int a, .int m, .int t]) ∧ W.H c = some (.lst (cs.map V.int)) ∧ cs ≠ [] ∧ (∀ x ∈ cs, 0 ≤ x) ∧ 0 ≤ a ∧ 0 ≤ m ∧ m < 2147483647
theorem St.keep {W W' : Wd} {p c : Addr} (s : St W p c) (hp : W'.H p = W.H p) (hc : W'.H c = W.H c) (bp : W'.B p = W.B p) (bc : W'.B c = W.B c) : St W' p c :=
  ⟨bp.trans s.bp, bc.trans s.bc, s.ne, by
    obtain ⟨a, m, t, cs, h1, h2, r⟩ := s.ex
    exact ⟨a, m, t, cs, hp.trans h1, hc.trans h2, r⟩⟩
theorem St.dom {W : Wd} {p c : Addr} (s : St W p c) : W.H p ≠ none ∧ W.H c ≠ none := by
  obtain ⟨a, m, t, cs, h1, h2, _⟩ := s.ex
  exact ⟨by rw [h1]; exact (fun z => by cases z), by rw [h2]; exact (fun z => by cases z)⟩
theorem St.nt {W : Wd} {p c : Addr} (s : St W p c) : Nt W.H p ∧ Nt W.H c := by
  obtain ⟨a, m, t, cs, h1, h2, _⟩ := s.ex
  exact ⟨.l h1, .l h2⟩
theorem St.off {S : List Addr} {W W' : Wd} {p c : Addr} (s : St W p c) (g : Md S W W') (hp : p ∉ S) (hc : c ∉ S) : St W' p c := by
  obtain ⟨a, m, t, cs, h1, h2, r⟩ := id s.ex
  exact s.keep ((g.o p _ hp h1).trans h1.symm) ((g.o c _ hc h2).trans h2.symm) (g.m p s.nt.1) (g.m c s.nt.2)
theorem St.g {W W' : Wd} {p c : Addr} (s : St W p c) (g : Grow W W') : St W' p c := s.off g (by simp) (by simp)
/-- the effect of drawing -/
def drw (p c : Addr) : Ef := ⟨[p, c], fun W => St W p c, fun W a s h => by
    have : a = p ∨ a = c := by simpa using h
    rcases this with e | e <;> rw [e]
    · exact s.nt.1
    · exact s.nt.2,
  fun W W' b h s => by
    have h1 := h p (by simp) s.nt.1
    have h2 := h c (by simp) s.nt.2
    exact s.keep h1.1 h2.1 h1.2 h2.2⟩

def sp__law_begun (K : Fg) : Sp := fun vs H Q _ => ∃ (W : Wd) (a : Addr) (ns : List Int), W.H = H ∧ vs = [.ref a] ∧ SqL K W.B a (ns.map V.int) ∧ ns.length ≤ 63 ∧
  ∀ p c W', Grow W W' → St3 W' p c → W.H p = none → W.H c = none → Q (.ref p) W'.H
theorem len__law_begun {K : Fg} {vs : List V} {H : Hp} {Q : VK} {E : XK} (h : sp__law_begun K vs H Q E) : vs.length = ["_law_script"].length := by
  obtain ⟨W, a, ns, _, rfl, _⟩ := h
  rfl
/-- _law_begun: the slots 0 _law_script, 1 _law_cell -/
abbrev n__law_begun : List Str := ["_law_script", "_law_cell"]
def t__law_begun (K : Fg) : TS := (tRet (tLst (tCons (tOp rCat (tLc (iList K (tVar 0)) (gName 1) tYes (tCB rAbs (tCons (tVar 1) tNil)) [1]) (tOp rRep (tLst (tCons (tC (.int 1)) tNil)) (tCB rInt1 (tCons (tOp rEq (tCB (rLen K) (tCons (tVar 0) tNil)) (tC (.int 0))) tNil)))) (tCons (tC (.int 0)) (tCons (tC (.int 1)) tNil)))))
def sp__law_draw (K : Fg) : Sp := fun vs H Q _ => ∃ (W : Wd) (p c : Addr) (n : Int), W.H = H ∧ vs = [.ref p, .int n] ∧ St W p c ∧ 0 < n ∧ n < 1073741824 ∧
  ∀ r W', 0 ≤ r → r < n → Md [p, c] W W' → St W' p c → Q (.int r) W'.H
theorem len__law_draw {K : Fg} {vs : List V} {H : Hp} {Q : VK} {E : XK} (h : sp__law_draw K vs H Q E) : vs.length = ["_law_state", "_law_size_of"].length := by
  obtain ⟨W, p, c, n, _, rfl, _⟩ := h
  rfl
/-- _law_draw: the slots 0 _law_state, 1 _law_size_of, 2 _law_cells, 3 _law_spot_at, 4 _law_cell -/
abbrev n__law_draw : List Str := ["_law_state", "_law_size_of", "_law_cells", "_law_spot_at", "_law_cell"]
def t__law_draw (K : Fg) : TS := (tSeq (tAsg (tOp (rIxL K) (tVar 0) (tC (.int 0))) (gName 2))
  (tSeq (tAsg (tOp oMod (tOp (rIxL K) (tVar 0) (tC (.int 1))) (tCB (rLen K) (tCons (tVar 2) tNil))) (gName 3))
  (tSeq (tAsg (tOp (rIxL K) (tVar 2) (tVar 3)) (gName 4))
  (tSeq (tIfS (tTest (tOp oGe (tVar 4) (tC (.int 1000000000000000000)))) (tSeq (tAsg (tOp oDiv (tVar 4) (tVar 1)) (gSub (tVar 2) (tVar 3) rSetL))
  (tRet (tOp oMod (tVar 4) (tVar 1)))) tNext)
  (tSeq (tAsg (tOp oAdd (tOp (rIxL K) (tVar 0) (tC (.int 1))) (tC (.int 1))) (gSub (tVar 0) (tC (.int 1)) rSetL))
  (tSeq (tAsg (tOp oMod (tOp oAdd (tOp oAdd (tOp oMul (tOp (rIxL K) (tVar 0) (tC (.int 2))) (tC (.int 48271))) (tVar 4)) (tC (.int 12345))) (tC (.int 2147483647))) (gSub (tVar 0) (tC (.int 2)) rSetL))
  (tRet (tOp oMod (tOp oDiv (tOp oMod (tOp oMul (tOp (rIxL K) (tVar 0) (tC (.int 2))) (tOp (rIxL K) (tVar 0) (tC (.int 2)))) (tC (.int 2147483629))) (tC (.int 16))) (tVar 1)))))))))
theorem ev_draw {K : Fg} {W : Wd} {σ : SS} {te : TE} {i : Nat} {p c : Addr} {n : Int} (h1 : σ[i]? = some (some (.ref p))) (hn : EvR (drw p c) K te σ W n) (h0 : 0 < n) (h2 : n < 1073741824) :
    EvP (drw p c) (tCall (sp__law_draw K) [] E0 (tCons (tVar i) (tCons te tNil))) σ W (fun v _ => ∃ r, v = .int r ∧ 0 ≤ r ∧ r < n) := fun W1 g1 Q k =>
  ⟨_, h1, hn W1 g1 _ fun u W2 g2 r => ⟨W2, p, c, n, rfl, by rw [show u = _ from r]; rfl, (show St W2 p c from g2.i), h0, h2, fun r W3 a b g s => k _ W3 (g2.trans ⟨g, s⟩) ⟨r, rfl, a, b⟩⟩⟩
section
variable {K : Fg} {vs : List V} {H : Hp} {Q : VK} {E : XK}
theorem sq_items {a : Addr} {W : Wd} {ns : List Int} (h : SqL K W.B a (ns.map V.int)) {σ : SS} {i : Nat} (hv : σ[i]? = some (some (.ref a))) : EvJ pur K (iList K (tVar i)) σ W ns := fun W1 g1 R k => by
  have s : ∀ W', On W W' → SqL K W'.H a (ns.map V.int) := fun W' o => W'.sub.l ((exExt o.b).l h)
  refine ⟨.ref a, hv, a, rfl, ⟨_, s W1 g1.on⟩, k (Itl K a) W1 g1.rf ⟨fun i W' o hi => ?_, fun i W' v H'' o hi ⟨e1, e2⟩ => ?_, fun i W' o hi => ?_⟩⟩
  · exact ⟨_, V.int ns[i], s W' (g1.on.trans o), by simp [hi]⟩
  · have := e2 _ (s W' (g1.on.trans o))
    rw [List.getElem?_map] at this
    cases q : ns[i]? with
    | none => rw [q] at this; cases this
    | some z =>
      rw [q] at this
      exact ⟨z, W', e1.symm, .refl _ _, rfl, (Option.some.inj this).symm⟩
  · exact ⟨_, s W' (g1.on.trans o), by simpa using hi⟩
theorem en_cat {α : Type} [Py α] {ε : Ef} {σ : SS} {W : Wd} {ta tb : TE} {xs ys : List α} (ha : EvR ε K ta σ W xs) (hb : EvR ε K tb σ W ys) (hl : xs.length + ys.length ≤ 100000) : EvN ε K (tOp rCat ta tb) σ W (xs ++ ys) := fun W1 g1 Q k => ha W1 g1 _ fun v W2 g2 rv => hb W2 (g1.trans g2) _ fun u W3 g3 ⟨b, us, e', s', r'⟩ => by
  obtain ⟨a, vs, e, s, r⟩ := rep_s g3 rv
  refine ⟨a, b, vs, us, e, e', W3.sub.el s, W3.sub.el s', by rw [Reps.len r, Reps.len r']; exact Evl.sz_of hl, fun p hp => ?_⟩
  exact k p (vs ++ us) (W3.put p _ (W3.free hp)) ((g2.trans g3).and (W3.grow_put hp)) (by
    cases z : W1.H p with
    | none => rfl
    | some o => exact absurd hp ((g2.trans g3).md.d p (by rw [z]; exact fun c => by cases c))) (W3.free hp) upd_same (Reps.app r r')
theorem rd__law_begun (h : sp__law_begun K vs H Q E) : t__law_begun K { nx := fun _ H' => Q .non H', rt := Q } (start n__law_begun vs) H := by
  obtain ⟨W, a, ns, rfl, rfl, hs, hl, k⟩ := h
  have hlen : EvR pur K (tCB (rLen K) (tCons (tVar 0) tNil)) [some (.ref a), none] W (ns.length : Int) := fun W1 g1 Q k => ⟨_, rfl, a, ns.map V.int, rfl, .inl (W1.sub.l ((exExt g1.md.b).l hs)), by rw [List.length_map]; exact k _ W1 g1.rf rfl⟩
  have hrep : EvR pur K (tOp rRep (tLst (tCons (tC (.int 1)) tNil)) (tCB rInt1 (tCons (tOp rEq (tCB (rLen K) (tCons (tVar 0) tNil)) (tC (.int 0))) tNil))) [some (.ref a), none] W (if ns.length = 0 then [(1 : Int)] else []) := by
    refine (ev_op (ev_lst (ea_cons ev_int ea_nil) (by decide)) (ev_cb1 (x := decide ((ns.length : Int) = 0)) (y := (if ns.length = 0 then (1 : Int) else 0)) (ev_op hlen ev_int ro_eqI) fun v W1 rv Q k => ?_) (ro_rep (xs := [(1 : Int)]) (by split <;> decide) (by split <;> decide) (by decide))).is ?_
    · refine .inr ⟨decide ((ns.length : Int) = 0), by rw [show v = _ from rv], ?_⟩
      by_cases z : ns.length = 0
      · rw [if_pos (by simp [z])]; exact k _ W1 (.refl _ _) (by show V.int 1 = V.int (if _ then _ else _); rw [if_pos z])
      · rw [if_neg (by simp [z])]; exact k _ W1 (.refl _ _) (by show V.int 0 = V.int (if _ then _ else _); rw [if_neg z])
    · by_cases z : ns.length = 0 <;> simp [z]
  refine (en_cat (xs := ns.map fun n => if n < 0 then -n else n) (ev_lcN (sq_items hs rfl).i (fun x v W' hx g r => ev_cb1 (ev_var rfl r) rc_abs) (by omega)) hrep (by rw [List.length_map]; split <;> (simp <;> omega))) W (.start trivial) _ fun c vs W1 g1' f1 n1 e1 r1 => ?_
  have g1 := g1'.pure
  refine ⟨Evl.sz_of (by show 3 ≤ 100000; decide), fun p hp => ?_⟩
  have npc : p ≠ c := fun z => by rw [z, e1] at hp; cases hp
  have hne : ns.map (fun n => if n < 0 then -n else n) ++ (if ns.length = 0 then [(1 : Int)] else []) ≠ [] := by
    cases ns <;> simp
  refine k p c (W1.put p _ (W1.free hp)) (g1.trans (W1.grow_put hp)) ⟨W1.free hp, n1, npc, 0, 1, _, upd_same, ?_, hne, ?_, by decide, by decide, by decide⟩ (by
    cases q : W.H p with
    | none => rfl
    | some o => exact absurd hp (g1.d p (by rw [q]; exact fun z => by cases z))) f1
  · rw [← reps_int r1]; exact (upd_ne npc.symm).trans e1
  · intro x hx
    rcases List.mem_append.mp hx with hx | hx
    · obtain ⟨n, _, rfl⟩ := List.mem_map.mp hx
      split <;> omega
    · split at hx
      · have := List.mem_singleton.mp hx; omega
      · cases hx
theorem rd__law_draw (h : sp__law_draw K vs H Q E) : t__law_draw K { nx := fun _ H' => Q .non H', rt := Q } (start n__law_draw vs) H := by
  obtain ⟨W, p, c, n, rfl, rfl, s, hn, hn2, k⟩ := h
  obtain ⟨a, m, t, cs, h1, h2, hne, hpos, ha, hm, hm2⟩ := id s.ex
  show t__law_draw K _ [some (.ref p), some (.int n), none, none, none] W.H
  have hlen : 0 < cs.length := List.length_pos_iff.mpr hne
  have hlenI : (0 : Int) < (cs.length : Int) := by omega
  obtain ⟨j, hj, hj2⟩ : ∃ j : Nat, a % (cs.length : Int) = (j : Int) ∧ j < cs.length := by
    have e1 := Int.emod_nonneg a (show (cs.length : Int) ≠ 0 by omega)
    have e2 := Int.emod_lt_of_pos a hlenI
    exact ⟨(a % (cs.length : Int)).toNat, by omega, by omega⟩
  have hx : (cs.map V.int)[j]? = some (V.int cs[j]) := by simp [hj2]
  have hx0 : 0 ≤ cs[j] := hpos _ (List.getElem_mem _)
  -- cells = state[0]; at = state[1] % len(cells); cell = cells[at]
  refine ⟨_, rfl, p, _, 0, _, rfl, rfl, SqL.of h1, rfl, ?_⟩
  refine ⟨_, rfl, p, _, 1, _, rfl, rfl, SqL.of h1, rfl, _, rfl, c, _, rfl, .inl (SqL.of h2), _, _, rfl, rfl, by rw [List.length_map]; exact hlenI, ?_⟩
  simp only [List.length_map, hj, gName]
  refine ⟨_, rfl, _, rfl, c, _, _, _, rfl, rfl, SqL.of h2, atI_nat hx, ?_⟩
  -- if cell is great
  refine ⟨_, rfl, _, _, rfl, rfl, _, rfl, ?_⟩
  refine ite2 (fun hc => ?_) (fun hc => ?_)
  · refine ⟨_, rfl, _, rfl, _, _, rfl, rfl, ⟨hn, hn2⟩, _, rfl, _, rfl, c, _, _, j, rfl, rfl, h2, by rw [List.length_map]; exact Evl.ixN_nat hj2, ?_⟩
    refine ⟨_, rfl, _, rfl, _, _, rfl, rfl, hn, ?_⟩
    refine k _ (W.put c _ s.bc) (Int.emod_nonneg _ (by omega)) (Int.emod_lt_of_pos _ hn) ((md_put s.bc).mono (by intro x; simp; exact fun h => .inr h)) ⟨s.bp, s.bc, s.ne, a, m, t, cs.set j (cs[j] / n), ?_, ?_, ?_, ?_, ha, hm, hm2⟩
    · show upd W.H c _ p = _
      rw [upd_ne s.ne]; exact h1
    · show upd W.H c _ c = _
      rw [upd_same, List.map_set]
    · intro z
      apply hne
      have : (cs.set j (cs[j] / n)).length = 0 := by rw [z]; rfl
      rw [List.length_set] at this
      exact List.length_eq_zero_iff.mp this
    · intro x hx'
      rcases List.mem_or_eq_of_mem_set hx' with z | z
      · exact hpos x z
      · rw [z]; exact Int.ediv_nonneg hx0 (by omega)
  · refine ⟨_, rfl, p, _, 1, _, rfl, rfl, SqL.of h1, rfl, _, _, rfl, rfl, _, rfl, p, _, _, 1, rfl, rfl, h1, rfl, ?_⟩
    refine ⟨_, rfl, p, _, 2, _, rfl, rfl, SqL.of upd_same, rfl, _, _, rfl, rfl, .inl ⟨by omega, by omega⟩, _, rfl, _, _, rfl, rfl, _, _, rfl, rfl, _, _, rfl, rfl, by show (0 : Int) < 2147483647; decide, _, rfl, p, _, _, 2, rfl, rfl, upd_same, rfl, ?_⟩
    have m0 := Int.emod_nonneg (m * 48271 + cs[j] + 12345) (show (2147483647 : Int) ≠ 0 by decide)
    have m1 := Int.emod_lt_of_pos (m * 48271 + cs[j] + 12345) (show (0 : Int) < 2147483647 by decide)
    refine ⟨_, rfl, p, _, 2, _, rfl, rfl, SqL.of upd_same, rfl, _, rfl, p, _, 2, _, rfl, rfl, SqL.of upd_same, rfl, _, _, rfl, rfl, .inl ⟨by omega, by omega⟩, _, _, rfl, rfl, by show (0 : Int) < 2147483629; decide, _, _, rfl, rfl, ⟨by decide, by decide⟩, _, rfl, _, _, rfl, rfl, hn, ?_⟩
    rw [upd_upd]
    refine k _ (W.put p _ s.bp) (Int.emod_nonneg _ (by omega)) (Int.emod_lt_of_pos _ hn) ((md_put s.bp).mono (by intro x; simp; exact fun h => .inl h)) ⟨s.bp, s.bc, s.ne, a + 1, _, t, cs, upd_same, ?_, hne, hpos, by omega, m0, m1⟩
    show upd W.H p _ c = _
    rw [upd_ne (Ne.symm s.ne)]; exact h2
end
end B
/-! B: classes of refusals, told by the top's names -/
namespace B
open PySem PySem.Spec PyProof.Rows L2
def cErr (K : Fg) (x : Str) : Addr := match PySem.W.nsIn K mainGlobals x with
  | some (some (.ref C)) => C
  | _ => 0
theorem cErr_of {K : Fg} {x : Str} {C : Addr} (h : PySem.W.nsIn K mainGlobals x = some (some (.ref C))) : cErr K x = C := by
  unfold cErr
  rw [h]
/-- str(n) -/
abbrev rStrI : List V → Hp → VK → Prop := fun xs H Q => ∃ i : Int, xs = [.int i] ∧ i.natAbs.log2 < 1920 ∧ Q (.str (toString i)) H
/-- a call in a def that lets out what it gets -/
theorem passE {X : Cx} {E : XK} (hs : X.stack = X.env :: X.outer) (hf : X.env.frame = some X.env.locals) (hex : X.ex = []) {E₁ : Value → Shared → Prop}
    (hx : X.xe = fun e s' => wpAny (model X.prog X.w) X.A (leaving X.env e) (fun _ s'' => L2.CX X.prog X.w X.outer X.H_0 X.s_0 E e s'') E₁ s') : Passes (L2.CX X.prog X.w) X E :=
  passes_call (takes_of hs hf hex hx) fun _ _ _ _ h => h
end B
/-! BE: errors with fields of their own: made, caught, kept, asked -/
namespace BE
open PySem PySem.Spec PySem.Calls PyProof.Rows
section
open PySem.W
variable {prog : Program} {w : World} {A : Around} {E : Value → Shared → Prop} {s : Shared} {K : Frag} {x D : Addr} {ox : Obj} {od : Option Obj}
theorem find_dataO {C : Addr} {name : Str} {a g : Value} (hc : (clsIn K C).isSome = true) (ha : findIn K (.ref C) name = some (some a)) (hg : specialIn K a "__get__" = some (some g)) (ht : takesIn K a = some true) : findObj K C od name = some (.bind g a) := by
  cases od with
  | none => exact findObj_dataN hc ha hg ht
  | some o => exact findObj_data hc ha hg ht
theorem classE_at {Q : Option Value → Shared → Prop} (C : L2.ExcC K D) (X : K.In s.heap) (I : InstAt s.heap x ox D od) (h : Q (some (.ref D)) { s with toks := s.toks + 1 }) : wpAny (model prog w) A (getAttr? (.ref x) "__class__") Q E s := by
  have hf : findObj K D od "__class__" = some (.bind (.builtin "getset_descriptor.__get__") (.builtin "object.__class__")) := find_dataO (by obtain ⟨cd, hc, _⟩ := any_some C.hd; rw [hc]; rfl) C.ha C.hn C.ht
  obtain ⟨hp, g, d, t, os⟩ := s
  have k0 := I.type (M := model prog w)
  have k1 := looks_findIn (M := model prog w) X C.hg
  have k2 := looks_findIn (M := model prog w) X C.hk
  have k3 := looks_find (M := model prog w) X I hf
  have sb : Looks (model prog w) hp (isInstance (.ref x) (.type "BaseException")) true := k0.andThen (looks_subIn X C.hs)
  have n0 : (false && onTheHeap (Value.builtin "BaseException.__getattribute__")) = false := rfl
  have n2 : (Value.builtin "BaseException.__getattribute__" == Value.builtin "object.__getattribute__") = false := by decide +kernel
  have n1 : (onTheHeap (Value.ref D) && Value.builtin "BaseException.__getattribute__" == Value.builtin "object.__getattribute__") = false := by rw [n2]; rfl
  unfold getAttr? getAttrBy? getAttrBy
  refine wpAny_bind (wpAny_mkText (wpAny_bind (wpAny_attempt (wpAny_holding (wpAny_bind (k0.at (wpAny_bind (k1.at ?_))))))))
  show wpAny _ _ (if (onTheHeap (Value.ref D) && Value.builtin "BaseException.__getattribute__" == Value.builtin "object.__getattribute__") = true then _ else _) _ _ _
  rw [n1, if_neg Bool.false_ne_true]
  unfold getAttrByItsOwn hookBefore
  refine wpAny_bind ?_
  rw [if_pos (show onTheHeap (Value.ref D) = true from rfl)]
  refine k2.at ?_
  refine wpAny_bind (wpAny_attempt (wpAny_holding ?_))
  unfold callGetattribute
  rw [n0, if_neg Bool.false_ne_true]
  unfold boundAndCalled
  rw [PySem.F.excAttr_ValueError.ga.bind (.ref x)]
  refine wpAny_bind (wpAny_pure ?_)
  show wpAny _ _ (call (.builtin "BaseException.__getattribute__") [.ref x, .str "__class__" t]) _ _ _
  refine wpAny_call (codeAny_call_builtin PySem.F.excAttr_ValueError.ga.plain PySem.F.entry_bexc_ga ?_)
  refine @check_slot (model prog w) _ _ ⟨hp, g, d, t + 1, os⟩ "BaseException.__getattribute__" "BaseException" "__getattribute__" (.ref x) [.str "__class__" t] [] _ (by decide +kernel) (by decide +kernel) sb (PySem.F.args_bexc_ga (.ref x) (.str "__class__" t)) ?_
  unfold Builtin.«object.__getattribute__»
  refine wpAny_bind (wpAny_of_eq (a := ((Value.ref x : Value), [Value.str "__class__" t])) (by first | rfl | (simp only [slotArgs]; rfl)) ?_)
  refine wpAny_bind (wpAny_pure (wpAny_bind (k0.at (wpAny_bind (k3.at ?_)))))
  show wpAny _ _ (holding [Value.builtin "object.__class__"] (call (.builtin "getset_descriptor.__get__") [.builtin "object.__class__", .ref x, .ref D]) >>= ret) _ _ _
  refine wpAny_bind (wpAny_holding (wpAny_call (class_get (s := ⟨hp, g, d, t + 1, os⟩) (ox := ox) (od := od) X I C.hm ?_)))
  refine wpAny_pure ?_
  show wpAny _ _ (handedOut (.ref D)) _ _ _
  rw [handedOut_of (v := .ref D) rfl]
  first
    | exact wpAny_pure (wpAny_pure h)
    | exact wpAny_pure h
    | exact wpAny_pure (wpAny_bind (wpAny_pure (wpAny_pure h)))
theorem kit_at (C : L2.ExcC K D) : KitX K (.ref x) (.ref D) (fun h => InstAt h x ox D od) where
  ty := fun _ _ _ I => I.type
  it := fun _ _ X _ => by
    obtain ⟨cd, hc, _⟩ := any_some C.hd
    unfold clsIn at hc
    split at hc
    · rename_i e
      exact fun A' Q' E' s' k q => wpAny_bind (m := loadHead D) (wpAny_loadPart (k _ _ (X _ _ e)) (wpAny_pure q))
    · cases hc
  ne := (handS_kitx_exc (x := x) (ox := ox) C.hg C.hk C.hs C.hd C.ha C.hn C.ht C.hm).ne
  ca := fun X I k => classE_at C X I k
end
open L2
/-- isinstance(e, c), e an error that was kept, with fields or without -/
def rIsF (K : PySem.W.Frag) : List V → Hp → VK → Prop := fun xs H Q => ∃ (a D : Addr) (d : Option Addr) (c : V) (cv : Value) (b : Bool), xs = [.ref a, c] ∧ H a = some (BX.ExK (.ref D) d a) ∧ (∀ dd, d = some dd → ∃ fs, H dd = some (.xd fs)) ∧ ExcC K D ∧ (∀ u, RelV c u → u = cv) ∧ PySem.W.kitOne K (.ref D) cv = some b ∧ Q (.bl b) H
theorem call_isF {X : Cx} : CallR X (.builtin "isinstance") (rIsF X.K) := by
  intro pins s σ H xs us Q I r h
  obtain ⟨a, D, d, c, cv, b, rfl, ha, hd, C, hcv, e, q⟩ := h
  cases r with
  | cons rx rr =>
    cases rr with
    | cons rt rr =>
      cases rr
      cases rx
      have ec := hcv _ rt
      subst ec
      obtain ⟨oe, vs, hget, hz, hv⟩ := (I.hok a _ ha).1
      obtain ⟨od, J⟩ : ∃ od, PySem.W.InstAt s.heap a oe D od := by
        obtain ⟨oc, od, oda, osl⟩ := oe
        obtain ⟨h1, h2⟩ := hz
        dsimp only at h1 h2 hv
        subst h1 h2 hv
        cases od with
        | none => exact ⟨none, hget, rfl, rfl, trivial⟩
        | some dd =>
          obtain ⟨fs, hfs⟩ := hd dd rfl
          have hx : ObjOk X.prog X.w H s.heap dd (.xd fs) := I.hok dd _ hfs
          obtain ⟨mA, hns, _⟩ := hx
          obtain ⟨o2, _, _, ho, _⟩ := hns
          exact ⟨some o2, hget, rfl, rfl, ho⟩
      exact PySem.W.kia_one (kit_at C) I.kIn J e (fun z => nomatch z) fun tk => ⟨.bl b, H, I.kept (t' := tk) fun _ _ z => z, rfl, q⟩
/-- what the written part says of a class with its own __init__ -/
def oexIn (K : PySem.W.Frag) (C : Addr) : Bool := match K.lookup C with
  | some ⟨.type "type", _, .cls cd, sl⟩ => (match cd.mro, sl.toList with
    | .ref C' :: bm, [_, _, _, _, some (.builtin n), _] => C' == C && n == "ValueError.__new__" && !cd.hasDel && cd.hasDict && PySem.HandSPX.refsVE bm
    | _, _ => false)
  | _ => false
theorem oex_mk {K : PySem.W.Frag} {C : Addr} (q : oexIn K C = true) (sa : PySem.W.findIn K (.ref C) "__setattr__" = some (some (.builtin "object.__setattr__"))) (ex : PySem.W.subIn K (.ref C) (.type "BaseException") = some true) (ty : PySem.W.typeIn K (.ref C) = some (.type "type")) (kp : PySem.W.keepIn K (.ref C) = true) : OexC K C := by
  refine ⟨?_, sa, ex, ty, kp⟩
  unfold oexIn at q
  split at q
  · rename_i dd cd sl ho
    split at q
    · rename_i C' bm k0 k1 k2 k3 n k5 hm hs
      simp only [Bool.and_eq_true, beq_iff_eq, Bool.not_eq_true'] at q
      obtain ⟨⟨⟨⟨rfl, rfl⟩, hdel⟩, hdct⟩, ht⟩ := q
      obtain ⟨nm, bs, mro, ns, qn, hd, sn, sub, ab, col, del⟩ := cd
      dsimp only at hm hdel hdct
      subst hm hdel hdct
      obtain ⟨l⟩ := sl
      simp only at hs
      subst hs
      exact ⟨nm, qn, ns, bs, bm, sn, sub, ab, col, dd, k0, k1, k2, k3, k5, ho, ht⟩
    · cases q
  · cases q
/-- raise C(e, ..) out of a def, C's own __init__ keeping sp -/
abbrev tRaiseI (C : Addr) (sp : Sp) (ta : TA) (E : XK) : TS := fun _ σ H => tMkO C sp [] ta σ H E
theorem ps_raiseI {X : Cx} {CX : CXT} {E : XK} {C fI : Addr} {k : Nat} {fd : FuncData} {ps : List Str} {sp : Sp} {x : Str} {e : Expr} {es : List Expr} {ta : TA} {p pos pos2 : Pos} {E₁ : Value → Shared → Prop} (T : OexC X.K C) (iC : PySem.W.findIn X.K (.ref C) "__init__" = some (some (.ref fI))) (tI : PySem.W.typeIn X.K (.ref fI) = some (.type "function"))
    (F1 : FnOk X.prog X.w X.K X.mg X.base CX k fI fd ps sp) (hp : Passes CX X (fun _ _ _ => False)) (hr : Room (k + 1) X.A) (hb : Binds X.K fd ps []) (hg : Gl X x) (hm : X.mg x = some (.ref C)) (ha : PA X (e :: es) ta) (hc : X.calm = true) (hs : X.stack = X.env :: X.outer) (hf : X.env.frame = some X.env.locals) (hex : X.ex = [])
    (hx : X.xe = fun e s' => wpAny (model X.prog X.w) X.A (leaving X.env e) (fun _ s'' => L2.CX X.prog X.w X.outer X.H_0 X.s_0 E e s'') E₁ s') (hdb : (x == ("__debug__" : Str)) = false := by decide)
    (he : starEach (e :: es) X.env = (false, eval e X.env) :: starEach es X.env := by rfl) (hpl : (backTo pos (starEach es X.env)).any (·.1) = false := by rfl) :
    PS X (.Raise (some (.Call (.Name x p) (e :: es) [] pos)) none pos2) (tRaiseI C sp ta E) :=
  ps_raise hc (takes_of hs hf hex hx) (pmk_oex (dvs := []) T iC tI F1 hr hb .nil hp hg hm ha hdb he hpl)
end BE
namespace B
open PySem L2
/-- s.upper() -/
abbrev rUpper : V → List V → Hp → VK → Prop := fun x xs H Q => ∃ a, x = .str a ∧ xs = [] ∧ a.length ≤ 5592405 ∧ Q (.str (Txt.upper a)) H
end B
/-! letters: words, the class Letters -/
namespace B
open PySem L2
open PySem.W (Tup T3 T4 Datum DatumOrd)
open Evl (Ex)
/-- one to six small letters -/
structure IsWord (s : Str) : Prop where
  lo : 1 ≤ s.length
  hi : s.length ≤ 6
  ok : ∀ c ∈ s.cps.toList, 97 ≤ c ∧ c ≤ 122
/-- one to twelve unlike words -/
structure Alpha (names : List Str) : Prop where
  lo : 1 ≤ names.length
  hi : names.length ≤ 12
  nd : names.Nodup
  ok : ∀ n ∈ names, IsWord n
def ranksOf (names : List Str) : List (Str × Int) := names.zip (rng 0 names.length)
theorem zip_sw {α β : Type} : ∀ (l : List α) (m : List β), (l.zip m).map (fun e => (e.2, e.1)) = m.zip l
  | [], m => by simp
  | _ :: _, [] => rfl
  | a :: l, b :: m => by rw [List.zip_cons_cons, List.map_cons, zip_sw l m, List.zip_cons_cons]
theorem ranks_keys (names : List Str) : (ranksOf names).map (·.1) = names := List.map_fst_zip (by rw [rng_len]; exact Nat.le_refl _)
theorem ranks_len (names : List Str) : (ranksOf names).length = names.length := by
  have := congrArg List.length (ranks_keys names)
  rwa [List.length_map] at this
theorem rank_of {names : List Str} {n : Str} (h : n ∈ names) : ∃ i, klook (ranksOf names) n = some i := by
  cases e : klook (ranksOf names) n with
  | some i => exact ⟨i, rfl⟩
  | none => exact absurd (by rw [ranks_keys]; exact h) (klook_none.mp e)
structure LettersC (K : Fg) (C : Addr) : Prop where
  i : ClsI K C
  nr : NoAttr K C "ranks"
/-- letters stand at v, for good -/
def LetAt (K : Fg) (C : Addr) (names : List Str) (v : V) (W : Wd) : Prop :=
  ∃ l dl r, v = .ref l ∧ W.B l = some (.ins C dl (putF "ranks" (.ref r) [])) ∧ DictAt K W (.ref r) (⟨ranksOf names⟩ : Dict Str Int) ∧ Alpha names
section
variable {K : Fg} {C : Addr} {names : List Str} {v : V} {W W' : Wd} {ε : Ef} {S : List Addr}
theorem LetAt.on (h : LetAt K C names v W) (g : On W W') : LetAt K C names v W' := by
  obtain ⟨l, dl, r, e, h1, h2, h3⟩ := h
  exact ⟨l, dl, r, e, g.b _ _ h1, h2.on g, h3⟩
theorem LetAt.g (h : LetAt K C names v W) (g : Md S W W') : LetAt K C names v W' := h.on g.on
theorem LetAt.s (h : LetAt K C names v W) (g : Stp ε W W') : LetAt K C names v W' := h.on g.on
theorem LetAt.al (h : LetAt K C names v W) : Alpha names := let ⟨_, _, _, _, _, _, a⟩ := h; a
/-- what is walked of a text -/
theorem ei_str {σ : SS} {te : TE} {x : Str} (h : EvR ε K te σ W x) : EvJ ε K (iStr te) σ W (signs x) := fun W1 g1 R k => h W1 g1 _ fun v W2 g2 r => by
  have sl : (signs x).length = x.cps.size := by unfold signs; simp
  refine ⟨x, r, k (Its x) W2 g2 ⟨fun i W' _ hi => by rw [sl] at hi; exact hi, fun i W' v H'' _ hi ⟨e1, c, e2, e3⟩ => ⟨⟨#[c]⟩, W', e1.symm, .refl _ _, ?_, e3⟩, fun i W' _ hi => by rw [sl] at hi; exact hi⟩⟩
  unfold signs
  rw [List.getElem?_map, Array.getElem?_toList, e2]; rfl
end
theorem sign_in (c : Nat) (h1 : 97 ≤ c) (h2 : c ≤ 122) : (Builtin.Str.occurrences "abcdefghijklmnopqrstuvwxyz" ⟨#[c]⟩ 0 (("abcdefghijklmnopqrstuvwxyz" : Str)).length 1).isEmpty = false := by
  have : ∀ k ∈ List.range 26, (Builtin.Str.occurrences "abcdefghijklmnopqrstuvwxyz" ⟨#[97 + k]⟩ 0 (("abcdefghijklmnopqrstuvwxyz" : Str)).length 1).isEmpty = false := by decide +kernel
  have := this (c - 97) (List.mem_range.mpr (by omega))
  rwa [show 97 + (c - 97) = c by omega] at this
def sp_is_whole (K : Fg) : Sp := fun vs H Q _ => ∃ (W : Wd) (v : V) (o : Odd), W.H = H ∧ vs = [v] ∧ rep K W.B v o ∧ ∀ W', Grow W W' → Q (.bl (o.isI && !o.isB)) W'.H
theorem len_is_whole {K : Fg} {vs : List V} {H : Hp} {Q : VK} {E : XK} (h : sp_is_whole K vs H Q E) : vs.length = ["thing"].length := by
  obtain ⟨W, v, o, _, rfl, _⟩ := h
  rfl
/-- is_whole: the slots 0 thing -/
abbrev n_is_whole : List Str := ["thing"]
def t_is_whole (K : Fg) : TS := (tRet (tAndV (tCB (rIsi K) (tCons (tVar 0) (tCons (tC (.ty "int")) tNil))) (tNotV (tCB (rIsi K) (tCons (tVar 0) (tCons (tC (.ty "bool")) tNil))))))
/-- whether each sign is a small letter, and of these one to six -/
def signB (x : Str) : Bool := !(Builtin.Str.occurrences "abcdefghijklmnopqrstuvwxyz" x 0 (("abcdefghijklmnopqrstuvwxyz" : Str)).length 1).isEmpty
def isLB (s : Str) : Bool := (decide (1 ≤ s.length) && decide (s.length ≤ 6)) && (signs s).all signB
theorem isLB_word {s : Str} (h : IsWord s) : isLB s = true := by
  unfold isLB
  rw [decide_eq_true h.lo, decide_eq_true h.hi]
  simp only [Bool.and_self, Bool.true_and, List.all_eq_true]
  intro x hx
  obtain ⟨c, hc, rfl⟩ := List.mem_map.mp hx
  have := h.ok c hc
  unfold signB
  rw [sign_in c this.1 this.2]; rfl
/-- of what kind a thing is, and whether it is a letter -/
def LetK (K : Fg) (v : V) (b : Bool) (W : Wd) : Prop := (∃ s, v = .str s ∧ s.length ≤ 1000 ∧ b = isLB s) ∨ (∃ a, (∀ W', Grow W W' → TyX K W'.H v (.type a)) ∧ kitB a "str" = some false ∧ (∀ s, v ≠ .str s) ∧ b = false)
theorem LetK.gr {K : Fg} {v : V} {b : Bool} {W W' : Wd} (h : LetK K v b W) (g : Grow W W') : LetK K v b W' := by
  rcases h with h | ⟨a, h1, h2, h3, h4⟩
  · exact .inl h
  · exact .inr ⟨a, fun W2 g2 => h1 W2 (g.trans g2), h2, h3, h4⟩
theorem letk_word {K : Fg} {s : Str} {W : Wd} (h : IsWord s) : LetK K (.str s) true W := .inl ⟨s, rfl, by have := h.hi; omega, (isLB_word h).symm⟩
def sp_is_letter (K : Fg) : Sp := fun vs H Q _ => ∃ (W : Wd) (v : V) (b : Bool), W.H = H ∧ vs = [v] ∧ LetK K v b W ∧ ∀ W', Grow W W' → Q (.bl b) W'.H
theorem len_is_letter {K : Fg} {vs : List V} {H : Hp} {Q : VK} {E : XK} (h : sp_is_letter K vs H Q E) : vs.length = ["thing"].length := by
  obtain ⟨W, v, b, _, rfl, _⟩ := h
  rfl
/-- is_letter: the slots 0 thing, 1 sign -/
abbrev n_is_letter : List Str := ["thing", "sign"]
def t_is_letter (K : Fg) : TS := (tSeq (tIfS (tOr (tNot (tB (tCB (rIsi K) (tCons (tVar 0) (tCons (tC (.ty "str")) tNil))))) (tNot (tTest (tChain oLe oLe (tC (.int 1)) (tCB rLenS (tCons (tVar 0) tNil)) (tC (.int 6)))))) (tRet (tC (.bl false))) tNext)
  (tRet (tCB (rAll K) (tCons (tLc (iStr (tVar 0)) (gName 1) tYes (tOp oInS (tVar 1) (tC (.str "abcdefghijklmnopqrstuvwxyz"))) [1]) tNil))))
def sp_Letters___init__ (K : Fg) (C : Addr) : Sp := fun vs H Q _ => ∃ (W : Wd) (x dx : Addr) (v : V) (names : List Str), W.H = H ∧ vs = [.ref x, v] ∧ W.B x = none ∧ W.H x = some (.ins C dx []) ∧ rep K W.B v names ∧ Alpha names ∧
  ∀ W' r, Md [x] W W' → W'.B x = none → W'.H x = some (.ins C dx (putF "ranks" (.ref r) [])) → DictAt K W' (.ref r) (⟨ranksOf names⟩ : Dict Str Int) → Q .non W'.H
theorem len_Letters___init__ {K : Fg} {C : Addr} {vs : List V} {H : Hp} {Q : VK} {E : XK} (h : sp_Letters___init__ K C vs H Q E) : vs.length = ["self", "names"].length := by
  obtain ⟨W, x, dx, v, names, _, rfl, _⟩ := h
  rfl
/-- Letters.__init__: the slots 0 self, 1 names, 2 name, 3 at -/
abbrev n_Letters___init__ : List Str := ["self", "names", "name", "at"]
def t_Letters___init__ (K : Fg) (c_Letters : Addr) : TS := (tSeq (tIfS (tOr (tNot (tB (tCB (rIsiT K) (tCons (tVar 1) (tCons (tTup (tCons (tC (.ty "list")) (tCons (tC (.ty "tuple")) tNil))) tNil))))) (tNot (tTest (tChain oLe oLe (tC (.int 1)) (tCB (rLen K) (tCons (tVar 1) tNil)) (tC (.int 12)))))) tNever tNext)
  (tSeq (tIfS (tOr (tNot (tB (tCB (rAll K) (tCons (tLc (iList K (tVar 1)) (gName 2) tYes (tCall (sp_is_letter K) [] E0 (tCons (tVar 2) tNil)) [2]) tNil)))) (tTest (tOp oLt (BY.tLenSetS K (tVar 1)) (tCB (rLen K) (tCons (tVar 1) tNil))))) tNever tNext)
  (sFld K (tVar 0) (tDc (iEnum K (tCons (tVar 1) tNil)) (gPair K 3 2) tYes (tVar 2) (tVar 3) [3, 2]) "ranks")))
def sp_Letters_ranked (K : Fg) (C : Addr) : Sp := fun vs H Q _ => ∃ (W : Wd) (v : V) (names : List Str), W.H = H ∧ vs = [v] ∧ LetAt K C names v W ∧ ∀ u W', Grow W W' → rep K W'.B u names → Q u W'.H
theorem len_Letters_ranked {K : Fg} {C : Addr} {vs : List V} {H : Hp} {Q : VK} {E : XK} (h : sp_Letters_ranked K C vs H Q E) : vs.length = ["self"].length := by
  obtain ⟨W, v, names, _, rfl, _⟩ := h
  rfl
/-- Letters.ranked: the slots 0 self -/
abbrev n_Letters_ranked : List Str := ["self"]
def t_Letters_ranked (K : Fg) (c_Letters : Addr) : TS := (tRet (tCB rListD (tCons (tFld K (tVar 0) "ranks") tNil)))
def sp_Letters___eq__ (K : Fg) (C : Addr) : Sp := fun vs H Q _ => ∃ (W : Wd) (v u : V) (n1 n2 : List Str), W.H = H ∧ vs = [v, u] ∧ LetAt K C n1 v W ∧ LetAt K C n2 u W ∧ ∀ W', Grow W W' → Q (.bl (decide (n1 = n2))) W'.H
theorem len_Letters___eq__ {K : Fg} {C : Addr} {vs : List V} {H : Hp} {Q : VK} {E : XK} (h : sp_Letters___eq__ K C vs H Q E) : vs.length = ["self", "other"].length := by
  obtain ⟨W, v, u, n1, n2, _, rfl, _⟩ := h
  rfl
/-- whether it is one of these -/
def hasB (names : List Str) : V → Bool
  | .str n => decide (n ∈ names)
  | _ => false
def sp_Letters_has (K : Fg) (C : Addr) : Sp := fun vs H Q _ => ∃ (W : Wd) (v u : V) (names : List Str) (b : Bool), W.H = H ∧ vs = [v, u] ∧ LetAt K C names v W ∧ LetK K u b W ∧ ∀ W', Grow W W' → Q (.bl (hasB names u)) W'.H
theorem len_Letters_has {K : Fg} {C : Addr} {vs : List V} {H : Hp} {Q : VK} {E : XK} (h : sp_Letters_has K C vs H Q E) : vs.length = ["self", "thing"].length := by
  obtain ⟨W, v, u, names, b, _, rfl, _⟩ := h
  rfl
/-- Letters.has: the slots 0 self, 1 thing -/
abbrev n_Letters_has : List Str := ["self", "thing"]
def t_Letters_has (K : Fg) (c_Letters : Addr) : TS := (tRet (tAndV (tCall (sp_is_letter K) [] E0 (tCons (tVar 1) tNil)) (tDIn (tVar 1) (tFld K (tVar 0) "ranks"))))
def sp_NoLetter___init__ (K : Fg) : Sp := fun vs H Q _ => ∃ (a : Addr) (u : V), vs = [.ref a, u] ∧ H a = some (exo a (cErr K "NoLetter") none) ∧ ∀ dx, H dx = none → dx ≠ a → Q .non (upd (upd H dx (exd dx [("name", u)])) a (exo a (cErr K "NoLetter") (some dx)))
theorem len_NoLetter___init__ {K : Fg} {vs : List V} {H : Hp} {Q : VK} {E : XK} (h : sp_NoLetter___init__ K vs H Q E) : vs.length = ["self", "name"].length := by
  obtain ⟨a, u, rfl, _⟩ := h
  rfl
/-- NoLetter.__init__: the slots 0 self, 1 name -/
abbrev n_NoLetter___init__ : List Str := ["self", "name"]
def t_NoLetter___init__ (K : Fg) : TS := (tOst K "name" (tVar 0) (tVar 1))
def sp_Letters_rank (K : Fg) (C : Addr) : Sp := fun vs H Q E => ∃ (W : Wd) (v u : V) (names : List Str) (b : Bool), W.H = H ∧ vs = [v, u] ∧ LetAt K C names v W ∧ LetK K u b W ∧
  ((∃ n, u = .str n ∧ n ∈ names ∧ ∀ i W', Grow W W' → klook (ranksOf names) n = some i → Q (.int i) W'.H) ∨ (hasB names u = false ∧ ∀ W' d, Grow W W' → W'.H d = some (.xd [("name", u)]) → E (.ref (cErr K "NoLetter")) (some d) W'.H))
theorem len_Letters_rank {K : Fg} {C : Addr} {vs : List V} {H : Hp} {Q : VK} {E : XK} (h : sp_Letters_rank K C vs H Q E) : vs.length = ["self", "name"].length := by
  obtain ⟨W, v, u, names, b, _, rfl, _⟩ := h
  rfl
/-- Letters.rank: the slots 0 self, 1 name -/
abbrev n_Letters_rank : List Str := ["self", "name"]
def t_Letters_rank (K : Fg) (c_Letters : Addr) (E : XK) : TS := (tSeq (tIfS (tNot (tB (tMeth c_Letters "has" (sp_Letters_has K c_Letters) [] E0 (tVar 0) (tCons (tVar 1) tNil)))) (BE.tRaiseI (cErr K "NoLetter") (sp_NoLetter___init__ K) (tCons (tVar 1) tNil) E) tNext)
  (tRet (tDGet (tFld K (tVar 0) "ranks") (tVar 1))))
section
variable {K : Fg} {W : Wd} {σ : SS} {ε : Ef} {te ta : TE} {C : Addr} {names : List Str}
/-- .ranks of letters -/
theorem ev_ranks (c : LettersC K C) (h : EvP ε te σ W (LetAt K C names)) : EvP ε (tFld K te "ranks") σ W (fun v W => ∃ r, v = .ref r ∧ DictAt K W (.ref r) (⟨ranksOf names⟩ : Dict Str Int)) := fun W1 g1 Q k => h W1 g1 _ fun v W2 g2 ⟨l, dl, r, e, h1, h2, h3⟩ =>
  ⟨l, C, dl, _, .ref r, e, W2.sub.ins h1, c.i.cl, c.nr, by rw [lookup_putF, if_pos rfl], k _ W2 g2 ⟨r, rfl, h2⟩⟩
/-- letters made -/
theorem ep_letters {sp : Sp} (hsp : ∀ vs H Q E, sp_Letters___init__ K C vs H Q E → sp vs H Q E) (h : EvR ε K te σ W names) (al : Alpha names) : EvP ε (tMake C sp [] E0 (tCons te tNil)) σ W (LetAt K C names) := fun W1 g1 Q k => h W1 g1 _ fun v W2 g2 rv x dx hx hdx ne => by
  have hd0 : W2.B dx = none := W2.free hdx
  let Wa := W2.put dx (.own x) hd0
  have ga : Grow W2 Wa := W2.grow_put hdx
  have hx' : Wa.H x = none := (upd_ne ne.symm).trans hx
  let Wb := Wa.put x (.ins C dx []) (Wa.free hx')
  have gb : Grow Wa Wb := Wa.grow_put hx'
  have gab := ga.trans gb
  refine hsp _ _ _ _ ⟨Wb, x, dx, v, names, rfl, rfl, Wa.free hx', upd_same, rep_g gab rv, al, fun W3 r m3 b3 h3 d3 => ⟨rfl, ?_⟩⟩
  have m2 : Md [x] W2 W3 := (Grow.s gab).trans m3
  have hf : W2.H x = none := hx
  have g3 : Grow W2 (W3.fix x _ h3) := by
    have := md_fix (S := []) (W := W2) (W' := W3) ⟨m2.b, m2.l, fun a o _ e => m2.o a o (fun z => by rw [List.mem_singleton.mp z] at e; rw [hf] at e; cases e) e, m2.m, m2.d, m2.n⟩ h3 b3 hf
    exact this
  have on : On W3 (W3.fix x _ h3) := ⟨ex_fix h3 b3, fun _ _ _ z => z⟩
  exact k _ (W3.fix x _ h3) (g2.and g3) ⟨x, dx, r, rfl, upd_same, d3.on on, al⟩
/-- a method of letters -/
theorem ep_lmeth {R : V → Wd → Prop} {m : Str} {sp : Sp} (h : EvP ε te σ W (LetAt K C names)) (hm : ¬ m = "ranks") (hs : ∀ v W1, Stp ε W W1 → LetAt K C names v W1 → ∀ Q : VK, (∀ u W2, Stp ε W1 W2 → R u W2 → Q u W2.H) → sp [v] W1.H Q E0) : EvP ε (tMeth C m sp [] E0 te tNil) σ W R := fun W1 g1 Q k => h W1 g1 _ fun v W2 g2 hl => by
  obtain ⟨l, dl, r, e, h1, h2, h3⟩ := id hl
  refine ⟨l, dl, _, e, W2.sub.ins h1, by rw [lookup_putF, if_neg hm]; all_goals rfl, ?_⟩
  exact hs v W2 (g1.trans g2) hl _ fun u W3 g3 r3 => k u W3 (g2.trans g3) r3
theorem ep_lmeth1 {R : V → Wd → Prop} {P : V → Wd → Prop} {m : Str} {sp : Sp} (h : EvP ε te σ W (LetAt K C names)) (hm : ¬ m = "ranks") (ha : EvP ε ta σ W P) (hs : ∀ v u W1, Stp ε W W1 → LetAt K C names v W1 → P u W1 → ∀ Q : VK, (∀ u W2, Stp ε W1 W2 → R u W2 → Q u W2.H) → sp [v, u] W1.H Q E0) : EvP ε (tMeth C m sp [] E0 te (tCons ta tNil)) σ W R := fun W1 g1 Q k => h W1 g1 _ fun v W2 g2 hl => by
  obtain ⟨l, dl, r, e, h1, h2, h3⟩ := id hl
  refine ⟨l, dl, _, e, W2.sub.ins h1, by rw [lookup_putF, if_neg hm]; all_goals rfl, ?_⟩
  exact ha W2 (g1.trans g2) _ fun u W3 g3 pu => hs v u W3 ((g1.trans g2).trans g3) (hl.s g3) pu _ fun u W4 g4 r4 => k u W4 ((g2.trans g3).trans g4) r4
/-- isinstance of letters -/
theorem ev_isLet (c : LettersC K C) (h : EvP ε te σ W (LetAt K C names)) : EvR ε K (tCB (rIsi K) (tCons te (tCons (tC (.ref C)) tNil))) σ W true := fun W1 g1 Q k => h W1 g1 _ fun v W2 g2 hl => by
  obtain ⟨l, dl, r, e, h1, h2, h3⟩ := id hl
  subst e
  show rIsi K [.ref l, .ref C] W2.H Q
  exact rc_isi_own c.i (W2.sub.ins h1) (k _ W2 g2 rfl)
end
section
variable {K : Fg} {vs : List V} {H : Hp} {Q : VK} {E : XK} {C : Addr}
theorem rd_is_whole (h : sp_is_whole K vs H Q E) : t_is_whole K { nx := fun _ H' => Q .non H', rt := Q } (start n_is_whole vs) H := by
  obtain ⟨W, v, o, rfl, rfl, r, k⟩ := h
  refine s_ret (ε := pur) (K := K) (x := (o.isI && !o.isB)) (ev_andV (a := o.isI) (ev_cb2 (ev_var rfl r) ev_raw (rc_isi (b := o.isI) (fun W1 v h => ty_odd W1 v o h) (odd_kitI o))) fun _ => (ev_notV (ev_cb2 (ev_var rfl r) ev_raw (rc_isi (b := o.isB) (fun W1 v h => ty_odd W1 v o h) (odd_kitB o))))) trivial fun v W' g r => ?_
  rw [show v = _ from r]
  exact k W' g.pure
theorem rd_is_letter (h : sp_is_letter K vs H Q E) : t_is_letter K { nx := fun _ H' => Q .non H', rt := Q } (start n_is_letter vs) H := by
  obtain ⟨W, v, b, rfl, rfl, hk, k⟩ := h
  have e : ∀ {i : Str} {W : Wd}, rep K W.B (V.str i) i := rfl
  rcases hk with ⟨s, rfl, hl, rfl⟩ | ⟨a, ht, hk, _, rfl⟩
  rotate_left
  · have isE : EvR pur K (tCB (rIsi K) (tCons (tVar 0) (tCons (tC (.ty "str")) tNil))) [some v, none] W false := fun W1 g1 Q k => ⟨_, rfl, v, .ty "str", .type a, .type "str", false, rfl, .ty "str", ht W1 g1.pure, kit_ty hk, k _ W1 g1.rf rfl⟩
    exact q_when (ε := pur) (b := true) ((et_or (a := true) (b := false) ((et_not (et_B isE)).is rfl) fun z => by cases z).is rfl) trivial (fun _ W1 g1 => k W1 g1.pure) (fun z => by cases z)
  refine q_when (ε := pur) (b := !(decide (1 ≤ s.length) && decide (s.length ≤ 6))) ((et_or (a := false) ((et_not (et_B (ev_cb2 (ev_var rfl e) ev_raw (rc_isi (b := true) ty_str (by decide +kernel))))).is rfl) fun _ => et_not (et_test (ev_chain ev_int (ev_cb1 (ev_var rfl e) (rc_lenS (by omega))) ev_int ro_B0 ro_B0))).is (by
    rw [Bool.false_or]
    congr 2 <;> exact decide_eq_decide.mpr (by omega))) trivial (fun z W1 g1 => ?_) fun z W1 g1 => ?_
  · have : isLB s = false := by
      unfold isLB
      rw [show (decide (1 ≤ s.length) && decide (s.length ≤ 6)) = false from Bool.not_eq_true' _ ▸ z]
      rfl
    rw [this] at k
    exact k W1 g1.pure
  have z : (decide (1 ≤ s.length) && decide (s.length ≤ 6)) = true := Bool.not_eq_false' _ ▸ z
  refine s_ret (ε := pur) (K := K) (x := isLB s) ((ev_cb1 (ev_lcN (f := signB) (ei_str (ev_var rfl e)).i (fun x v W' hx g r => (ev_op (ev_var rfl r) ev_str (ro_val fun v u W2 rv ru Q k => ⟨x, _, rv, ru, k _ rfl⟩)))  (by unfold signs; rw [List.length_map, Array.length_toList]; have : s.length = s.cps.size := rfl; omega)) rc_all).is ?_) trivial fun v W' g r => ?_
  · unfold isLB
    rw [z, Bool.true_and, List.all_map]
    rfl
  · rw [show v = _ from r]
    exact k W' (g1.pure.trans g.pure)
/-- o.f = v, where P is known of v -/
theorem s_fldP {D : Ends} {σ : SS} {W : Wd} {tv : TE} {P : V → Wd → Prop} {x dx C : Addr} {f : Str} {fs : List (Str × V)} {i : Nat} (c : Cls K C) (n : NoAttr K C f) (hd : σ[i]? = some (some (.ref x))) (hb : W.B x = none) (hh : W.H x = some (.ins C dx fs)) (hl : fs.length < 1000) (hv : EvP pur tv σ W P)
    (q : ∀ v W1 W', Grow W W1 → P v W1 → Md [x] W1 W' → On W1 W' → W1.B x = none → W1.H x = some (.ins C dx fs) → W'.B x = none → W'.H x = some (.ins C dx (putF f v fs)) → D.nx σ W'.H) : sFld K (tVar i) tv f D σ W.H := hv W (.start trivial) _ fun v W1 g1 pv => by
  have m := g1.pure.mut (by simp) hh hb
  exact ⟨_, hd, x, C, dx, fs, rfl, m.1, c, n, hl, q v W1 (W1.put x _ m.2) g1.pure pv (md_put m.2) (md_put m.2).on m.2 m.1 m.2 upd_same⟩
theorem q_fldP {D : Ends} {tz : TS} {σ : SS} {W : Wd} {tv : TE} {P : V → Wd → Prop} {x dx C : Addr} {f : Str} {fs : List (Str × V)} {i : Nat} (c : Cls K C) (n : NoAttr K C f) (hd : σ[i]? = some (some (.ref x))) (hb : W.B x = none) (hh : W.H x = some (.ins C dx fs)) (hl : fs.length < 1000) (hv : EvP pur tv σ W P)
    (q : ∀ v W1 W', Grow W W1 → P v W1 → Md [x] W1 W' → On W1 W' → W1.B x = none → W1.H x = some (.ins C dx fs) → W'.B x = none → W'.H x = some (.ins C dx (putF f v fs)) → tz D σ W'.H) : tSeq (sFld K (tVar i) tv f) tz D σ W.H := s_fldP (D := { D with nx := tz D }) c n hd hb hh hl hv q
theorem EvD.p {κ α : Type} [PyKey κ] [Py α] {ε : Ef} {σ : SS} {W : Wd} {te : TE} {d : Dict κ α} (h : EvD ε K te σ W d) : EvP ε te σ W (fun v W => DictAt K W v d) := h
theorem ev_isLetter {σ : SS} {W : Wd} {te : TE} {s : Str} (h : EvR pur K te σ W s) (hw : IsWord s) : EvR pur K (tCall (sp_is_letter K) [] E0 (tCons te tNil)) σ W true :=
  (ev_callP1 (P := fun v _ => v = V.str s) (R := fun v W => rep K W.B v true) h fun v W1 g e Q k => ⟨W1, .str s, true, rfl, by rw [e], letk_word hw, fun W' g' => k _ W' (.of g') rfl⟩ : EvP _ _ _ _ _)
theorem ev_lenSetS {σ : SS} {W : Wd} {te : TE} {ε : Ef} {xs : List Str} (h : EvR ε K te σ W xs) (n : xs.Nodup) (hl : xs.length ≤ 4000) : EvR ε K (BY.tLenSetS K te) σ W (xs.length : Int) := fun W1 g1 Q k => h W1 g1 _ fun v W2 g2 ⟨a, vs, e, s, r⟩ =>
  ⟨a, xs, e, by rw [← reps_str r]; exact SqL.of (W2.sub.el s), n, hl, k _ W2 g2 rfl⟩
theorem rd_Letters___init__ (c : LettersC K C) (h : sp_Letters___init__ K C vs H Q E) : t_Letters___init__ K C { nx := fun _ H' => Q .non H', rt := Q } (start n_Letters___init__ vs) H := by
  obtain ⟨W, x, dx, v, names, rfl, rfl, hb, hh, rv, al, k⟩ := h
  have l1 := al.lo
  have l2 := al.hi
  refine q_when (ε := pur) (b := false) ((et_or (a := false) ((et_not (et_B (ev_isi2 (ev_var rfl rv) ty_lst (b1 := true) (b2 := false) (by decide +kernel) (by decide +kernel)))).is rfl) fun _ => et_not (et_test (ev_chain ev_int (ev_cb1 (ev_var rfl rv) rc_len) ev_int ro_B0 ro_B0))).is (by
    simp only [Bool.false_or, Bool.not_eq_false', Bool.and_eq_true, decide_eq_true_eq]; omega)) trivial (fun z => by cases z) fun _ W1 g1 => ?_
  have rv1 := rep_s g1 rv
  refine q_when (ε := pur) (b := false) ((et_or (a := false) ((et_not (et_B ((ev_cb1 (ev_lcN (f := fun _ => true) (ei_list (ev_var rfl rv1)).i (fun x v W' hx g r => ev_isLetter (ev_var rfl r) (al.ok x hx)) (by omega)) rc_all).is (by simp : _ = true)))).is rfl) fun _ => et_test ((ev_op (ev_lenSetS (ev_var rfl rv1) al.nd (by omega)) (ev_cb1 (ev_var rfl rv1) rc_len) ro_B0))).is (by simp)) trivial (fun z => by cases z) fun _ W2 g2 => ?_
  have g := (g1.trans g2).pure
  have m := g.mut (by simp) hh hb
  have rv2 := rep_s g2 rv1
  have dc : EvD pur K (tDc (iEnum K (tCons (tVar 1) tNil)) (gPair K 3 2) tYes (tVar 2) (tVar 3) [3, 2]) [some (.ref x), some v, none, none] W2 (⟨ranksOf names⟩ : Dict Str Int) := by
    refine ((em_dcP (p := fun _ => true) (f := fun e : Int × Str => (e.2, e.1)) (ei_enum (ev_var rfl rv2)).i (fun x v u W' _ _ _ _ => et_yes) (fun x v u W' _ _ g r r' => ek_str (ev_var rfl r')) (fun x v u W' _ _ g r r' => ev_var rfl r) (by rw [List.length_zip, rng_len]; omega)).is ?_).toD
    rw [filter_yes]
    have : ((rng 0 names.length).zip names).map (fun e : Int × Str => (e.2, e.1)) = ranksOf names := zip_sw _ _
    rw [this]
    exact kfill_id (by rw [ranks_keys]; exact al.nd)
  refine s_fldP c.i.cl c.nr rfl m.2 m.1 (by show 0 < 1000; decide) dc.p fun v3 W3 W4 g3 d3 m4 o4 b3 h3 b4 h4 => ?_
  obtain ⟨r, ks, e, z1, z2, z3⟩ := id d3
  subst e
  exact k W4 r ((Grow.s (g.trans g3)).trans m4) b4 h4 (d3.on o4)
theorem rd_Letters_ranked (c : LettersC K C) (h : sp_Letters_ranked K C vs H Q E) : t_Letters_ranked K C { nx := fun _ H' => Q .non H', rt := Q } (start n_Letters_ranked vs) H := by
  obtain ⟨W, v, names, rfl, rfl, hl, k⟩ := h
  refine (ev_ranks (ε := pur) c (ep_var (i := 0) rfl hl fun W' g => hl.s g)) W (.start trivial) _ fun u W1 g1 ⟨r, e, d⟩ => ?_
  have := ev_listDE (ε := pur) (te := tC (.ref r)) (σ := [some v]) (ev_raw (n := .ref r)) (d.stay) W1 (.start trivial)
  subst e
  refine this _ fun u W2 g2 ru => k u W2 (g1.trans g2).pure ?_
  rw [show ((⟨ranksOf names⟩ : Dict Str Int).kv.map (·.1)) = names from ranks_keys names] at ru
  exact ru
theorem ev_ranked {σ : SS} {W : Wd} {te : TE} {names : List Str} (h : EvP pur te σ W (LetAt K C names)) : EvR pur K (tMeth C "ranked" (sp_Letters_ranked K C) [] E0 te tNil) σ W names :=
  ep_lmeth (R := fun v W => rep K W.B v names) h (by decide +kernel) fun v W1 g hl Q k => ⟨W1, v, names, rfl, rfl, hl, fun u W' g' r => k u W' (.of g') r⟩
/-- is_letter of any thing -/
theorem ev_isLetK {σ : SS} {W : Wd} {i : Nat} {v : V} {b : Bool} (h : σ[i]? = some (some v)) (hk : LetK K v b W) : EvR pur K (tCall (sp_is_letter K) [] E0 (tCons (tVar i) tNil)) σ W b := fun W1 g1 Q k => ⟨_, h, W1, v, b, rfl, rfl, hk.gr g1.pure, fun W' g' => k _ W' (.of g') rfl⟩
theorem rd_Letters_has (c : LettersC K C) (h : sp_Letters_has K C vs H Q E) : t_Letters_has K C { nx := fun _ H' => Q .non H', rt := Q } (start n_Letters_has vs) H := by
  obtain ⟨W, v, u, names, b, rfl, rfl, hl, hk, k⟩ := h
  have hk0 := hk
  rcases hk with ⟨n, rfl, hln, rfl⟩ | ⟨a, ht, _, hns, rfl⟩
  · have e : ∀ {W : Wd}, rep K W.B (V.str n) n := rfl
    have din : EvR pur K (tDIn (tVar 1) (tFld K (tVar 0) "ranks")) [some v, some (.str n)] W (decide (n ∈ names)) := fun W1 g1 Q k => by
      refine (ev_var (i := 1) rfl e : EvR pur K _ _ W n) W1 g1 _ fun u W2 g2 eu => ?_
      refine (ev_ranks (ε := pur) c (ep_var (i := 0) rfl hl fun W' g => hl.s g)) W2 (g1.trans g2) _ fun v W3 g3 ⟨r, e3, d⟩ => ?_
      obtain ⟨a, ks, e4, _, h4, r4⟩ := id d
      cases e4
      rcases klk r4 n with ⟨h1, h2⟩ | ⟨y, w, h1, h2, h3⟩
      · have hn : n ∉ names := fun z => by
          obtain ⟨i, hi⟩ := rank_of z
          have h1 : klook (ranksOf names) n = none := h1
          rw [hi] at h1; cases h1
        refine ⟨r, none, e3, .inl ⟨ks, PyKey.key n, .inl h4, eu, h2.symm⟩, k _ W3 (g2.trans g3) ?_⟩
        show V.bl _ = V.bl _
        rw [decide_eq_false hn]; rfl
      · have hn : n ∈ names := by
          have : n ∈ (ranksOf names).map (·.1) := List.mem_map.mpr ⟨(n, y), klook_mem (kv := ranksOf names) h1, rfl⟩
          rwa [ranks_keys] at this
        refine ⟨r, some w, e3, .inl ⟨ks, PyKey.key n, .inl h4, eu, h2.symm⟩, k _ W3 (g2.trans g3) ?_⟩
        show V.bl _ = V.bl _
        rw [decide_eq_true hn]; rfl
    refine s_ret (ε := pur) (K := K) (x := decide (n ∈ names)) ((ev_andV (a := isLB n) (ev_isLetK (i := 1) rfl hk0) fun _ => din).is (by
      by_cases z : n ∈ names
      · rw [isLB_word (hl.al.ok n z), Bool.true_and]
      · rw [decide_eq_false z, Bool.and_false])) trivial fun z W' g r => ?_
    rw [show z = _ from r]
    exact k W' g.pure
  · refine s_ret (ε := pur) (K := K) (x := false) ((ev_andV (a := false) (b := false) (ev_isLetK (i := 1) rfl hk0) fun z => by cases z).is rfl) trivial fun z W' g r => ?_
    rw [show z = _ from r]
    have := k W' g.pure
    have e : hasB names u = false := by
      cases u with
      | str s => exact absurd rfl (hns s)
      | _ => rfl
    rwa [e] at this
theorem rd_NoLetter___init__ (h1 : OexC K (cErr K "NoLetter")) (h2 : PySem.W.findIn K (.ref (cErr K "NoLetter")) "name" = some none) (h : sp_NoLetter___init__ K vs H Q E) : t_NoLetter___init__ K { nx := fun _ H' => Q .non H', rt := Q } (start n_NoLetter___init__ vs) H := by
  obtain ⟨a, u, rfl, ha, k⟩ := h
  exact ⟨_, rfl, _, rfl, a, _, rfl, h1, h2, .inl ⟨ha, fun dx n ne => k dx n ne⟩⟩
theorem s_raiseNL {W : Wd} {σ : SS} {i : Nat} {u : V} {D : Ends} (hi : σ[i]? = some (some u)) (k : ∀ W' d, Grow W W' → W'.H d = some (.xd [("name", u)]) → E (.ref (cErr K "NoLetter")) (some d) W'.H) : BE.tRaiseI (cErr K "NoLetter") (sp_NoLetter___init__ K) (tCons (tVar i) tNil) E D σ W.H := by
  refine ⟨_, hi, (by show 1 ≤ 1000; decide), fun a ha => ⟨a, u, rfl, upd_same, fun dx n ne => ⟨rfl, dx, [("name", u)], upd_same, (upd_ne ne).trans upd_same, (upd_ne ne).symm.trans n, ?_⟩⟩⟩
  have hdx : W.H dx = none := (upd_ne ne).symm.trans n
  let W' := W.put dx (.xd [("name", u)]) (W.free hdx)
  have g : Grow W W' := W.grow_put hdx
  have eq : upd (del (upd (upd (upd W.H a (exo a (cErr K "NoLetter") none)) dx (exd dx [("name", u)])) a (exo a (cErr K "NoLetter") (some dx))) a) dx (.xd [("name", u)]) = W'.H := by
    funext b
    show upd _ dx _ b = upd W.H dx _ b
    unfold upd del
    by_cases c1 : b = dx
    · simp [c1]
    · by_cases c2 : b = a
      · subst c2
        simp [c1, ha]
      · simp [c1, c2]
  rw [eq]
  exact k W' dx g upd_same
theorem rd_Letters_rank (c : LettersC K C) (h : sp_Letters_rank K C vs H Q E) : t_Letters_rank K C E { nx := fun _ H' => Q .non H', rt := Q } (start n_Letters_rank vs) H := by
  obtain ⟨W, v, u, names, b, rfl, rfl, hl, hk, h⟩ := h
  have has : EvP pur (tMeth C "has" (sp_Letters_has K C) [] E0 (tVar 0) (tCons (tVar 1) tNil)) [some v, some u] W (fun v W => rep K W.B v (hasB names u)) :=
    ep_lmeth1 (σ := [some v, some u]) (R := fun v W => rep K W.B v (hasB names u)) (P := fun v' _ => v' = u) (ep_var (i := 0) rfl hl fun W' g => hl.s g) (by decide +kernel) (fun W1 g1 Q k => ⟨_, rfl, k u W1 g1.rf rfl⟩) fun v' u' W1 g hl e Q k => ⟨W1, v', u', names, b, rfl, rfl, hl, by rw [e]; exact hk.gr g.pure, fun W' g' => k _ W' (.of g') (by rw [e]; rfl)⟩
  rcases h with ⟨n, rfl, hn, k⟩ | ⟨hno, k⟩
  · have e : ∀ {W : Wd}, rep K W.B (V.str n) n := rfl
    refine q_when (ε := pur) (b := false) ((et_not (et_B (K := K) (b := true) (by rw [show hasB names (.str n) = true from decide_eq_true hn] at has; exact has))).is rfl) trivial (fun z => by cases z) fun _ W1 g1 => ?_
    have hl1 := hl.s g1
    obtain ⟨i, hi⟩ := rank_of hn
    have dg : EvR pur K (tDGet (tFld K (tVar 0) "ranks") (tVar 1)) [some v, some (.str n)] W1 i := fun W2 g2 Q k => by
      refine (ev_ranks (ε := pur) c (ep_var (i := 0) rfl hl1 fun W' g => hl1.s g)) W2 g2 _ fun u W3 g3 ⟨r, e3, d⟩ => ?_
      refine (ev_var (i := 1) rfl e : EvR pur K _ _ W1 n) W3 (g2.trans g3) _ fun z W4 g4 ez => ?_
      obtain ⟨a, ks, e4, _, h4, r4⟩ := d.s g4
      obtain ⟨w, h1, h2⟩ := r4.some hi
      cases e4
      exact ⟨r, w, e3, .inl ⟨ks, PyKey.key n, .inl h4, ez, h1.symm⟩, k _ W4 (g3.trans g4) h2⟩
    refine s_ret (ε := pur) dg trivial fun z W' g r => ?_
    rw [show z = _ from r]
    exact k i W' (g1.trans g).pure hi
  · rw [hno] at has
    exact q_when (ε := pur) (b := true) ((et_not (et_B (K := K) (b := false) has)).is rfl) trivial (fun _ W1 g1 => s_raiseNL rfl fun W' d g => k W' d (g1.pure.trans g)) (fun z => by cases z)
end
end B
/-! jars: the class Jars -/
namespace B
open PySem L2
open PySem.W (Tup T3 T4 Datum DatumOrd)
open Evl (Ex)
structure JarsC (K : Fg) (C : Addr) : Prop where
  i : ClsI K C
  n1 : NoAttr K C "own_letters"
  n2 : NoAttr K C "jar_number"
  n3 : NoAttr K C "inside"
  n4 : NoAttr K C "lost"
theorem k12 : ¬ (("own_letters" : Str) = "jar_number") := by decide +kernel
theorem k13 : ¬ (("own_letters" : Str) = "inside") := by decide +kernel
theorem k14 : ¬ (("own_letters" : Str) = "lost") := by decide +kernel
theorem k23 : ¬ (("jar_number" : Str) = "inside") := by decide +kernel
theorem k24 : ¬ (("jar_number" : Str) = "lost") := by decide +kernel
theorem k34 : ¬ (("inside" : Str) = "lost") := by decide +kernel
def jf (l : V) (n : Int) (i d : Addr) : List (Str × V) := putF "lost" (.ref d) (putF "inside" (.ref i) (putF "jar_number" (.int n) (putF "own_letters" l [])))
section
variable {l : V} {n : Int} {i d : Addr}
theorem jf_l : (jf l n i d).lookup ("own_letters" : Str) = some l := by
  unfold jf
  rw [lookup_putF, if_neg k14, lookup_putF, if_neg k13, lookup_putF, if_neg k12, lookup_putF, if_pos rfl]
theorem jf_n : (jf l n i d).lookup ("jar_number" : Str) = some (.int n) := by
  unfold jf
  rw [lookup_putF, if_neg k24, lookup_putF, if_neg k23, lookup_putF, if_pos rfl]
theorem jf_i : (jf l n i d).lookup ("inside" : Str) = some (.ref i) := by
  unfold jf
  rw [lookup_putF, if_neg k34, lookup_putF, if_pos rfl]
theorem jf_d : (jf l n i d).lookup ("lost" : Str) = some (.ref d) := by
  unfold jf
  rw [lookup_putF, if_pos rfl]
theorem jf_no {m : Str} (h1 : ¬ m = "own_letters") (h2 : ¬ m = "jar_number") (h3 : ¬ m = "inside") (h4 : ¬ m = "lost") : (jf l n i d).lookup m = none := by
  unfold jf
  rw [lookup_putF, if_neg h4, lookup_putF, if_neg h3, lookup_putF, if_neg h2, lookup_putF, if_neg h1]
  all_goals rfl
theorem jf_eq : jf l n i d = ([(("own_letters" : Str), l), (("jar_number" : Str), .int n), (("inside" : Str), .ref i), (("lost" : Str), .ref d)] : List (Str × V)) := by
  unfold jf
  simp only [putF, if_neg k12, if_neg k13, if_neg k14, if_neg k23, if_neg k24, if_neg k34]
theorem jf_putI {j : Addr} : putF "inside" (.ref j) (jf l n i d) = jf l n j d := by
  rw [jf_eq, jf_eq]
  simp only [putF, if_neg k13, if_neg k23, if_pos]
theorem jf_putN {m : Int} : putF "jar_number" (.int m) (jf l n i d) = jf l m i d := by
  rw [jf_eq, jf_eq]
  simp only [putF, if_neg k12, if_pos]
theorem jf_len : (jf l n i d).length < 1000 := by
  rw [jf_eq]
  show 4 < 1000
  decide
end
/-- jars stand at x, with what is in them at i and what they lost at d -/
structure JarAt (K : Fg) (CL CJ : Addr) (W : Wd) (x i d : Addr) (names : List Str) (n : Nat) (s : Ins × Lots) : Prop where
  b : W.B x = none
  ex : ∃ dx l, W.H x = some (.ins CJ dx (jf l n i d)) ∧ LetAt K CL names l W
  mi : DMut K W i s.1
  md : DMut K W d s.2
  ne : i ≠ d
section
variable {K : Fg} {CL CJ : Addr} {W W' : Wd} {x i d : Addr} {names : List Str} {n : Nat} {s : Ins × Lots} {S : List Addr} {ε : Ef} {σ : SS} {te : TE} {j : Nat}
theorem JarAt.nt (r : JarAt K CL CJ W x i d names n s) : Nt W.H x := by
  obtain ⟨dx, l, h, _⟩ := r.ex
  exact ⟨_, h, fun _ z => by cases z⟩
theorem JarAt.g (r : JarAt K CL CJ W x i d names n s) (g : Md S W W') (hx : x ∉ S) (hi : i ∉ S) (hd : d ∉ S) : JarAt K CL CJ W' x i d names n s := by
  obtain ⟨dx, l, h, hl⟩ := r.ex
  have m := g.mut hx h r.b
  exact ⟨m.2, ⟨dx, l, m.1, hl.g g⟩, r.mi.g g hi, r.md.g g hd, r.ne⟩
theorem JarAt.gr (r : JarAt K CL CJ W x i d names n s) (g : Grow W W') : JarAt K CL CJ W' x i d names n s := r.g g (by simp) (by simp) (by simp)
theorem JarAt.xi (r : JarAt K CL CJ W x i d names n s) : x ≠ i ∧ x ≠ d := by
  obtain ⟨dx, l, h, hl⟩ := r.ex
  obtain ⟨ks, e, _⟩ := r.mi.ex
  obtain ⟨ks', e', _⟩ := r.md.ex
  exact ⟨fun z => by (rw [z, e] at h; cases h), fun z => by (rw [z, e'] at h; cases h)⟩
theorem JarAt.al (r : JarAt K CL CJ W x i d names n s) : Alpha names := by
  obtain ⟨dx, l, h, hl⟩ := r.ex
  exact hl.al
/-- fields read -/
theorem ev_jnum (c : JarsC K CJ) (hd : σ[j]? = some (some (.ref x))) (r : JarAt K CL CJ W x i d names n s) (hS : x ∉ ε.S) : EvR ε K (tFld K (tVar j) "jar_number") σ W (n : Int) := by
  obtain ⟨dx, l, h, hl⟩ := r.ex
  exact ev_fld c.i.cl c.n2 hd r.b h hS jf_n rfl
theorem ev_jins (c : JarsC K CJ) (hd : σ[j]? = some (some (.ref x))) (r : JarAt K CL CJ W x i d names n s) (hS : x ∉ ε.S) : EvR ε K (tFld K (tVar j) "inside") σ W (Raw.mk (.ref i)) := by
  obtain ⟨dx, l, h, hl⟩ := r.ex
  exact ev_fld c.i.cl c.n3 hd r.b h hS jf_i rfl
theorem ev_jlost (c : JarsC K CJ) (hd : σ[j]? = some (some (.ref x))) (r : JarAt K CL CJ W x i d names n s) (hS : x ∉ ε.S) : EvR ε K (tFld K (tVar j) "lost") σ W (Raw.mk (.ref d)) := by
  obtain ⟨dx, l, h, hl⟩ := r.ex
  exact ev_fld c.i.cl c.n4 hd r.b h hS jf_d rfl
theorem ep_jlet (c : JarsC K CJ) (hd : σ[j]? = some (some (.ref x))) (r : JarAt K CL CJ W x i d names n s) (hS : x ∉ ε.S) : EvP ε (tFld K (tVar j) "own_letters") σ W (LetAt K CL names) := by
  obtain ⟨dx, l, h, hl⟩ := r.ex
  have : EvR ε K (tFld K (tVar j) "own_letters") σ W (Raw.mk l) := ev_fld c.i.cl c.n1 hd r.b h hS jf_l rfl
  exact fun W1 g1 Q k => this W1 g1 _ fun v W2 g2 e => k v W2 g2 (by rw [show v = l from e]; exact (hl.s g1).s g2)
/-- a method of jars that leaves all as it is -/
theorem ep_jmeth {R : V → Wd → Prop} {m : Str} {sp : Sp} (hd : σ[j]? = some (some (.ref x))) (r : JarAt K CL CJ W x i d names n s) (hm : ¬ m = "own_letters" ∧ ¬ m = "jar_number" ∧ ¬ m = "inside" ∧ ¬ m = "lost")
    (hs : ∀ W1, Grow W W1 → JarAt K CL CJ W1 x i d names n s → ∀ Q : VK, (∀ u W2, Grow W1 W2 → R u W2 → Q u W2.H) → sp [.ref x] W1.H Q E0) : EvP pur (tMeth CJ m sp [] E0 (tVar j) tNil) σ W R := fun W1 g1 Q k => by
  have r1 := r.gr g1.pure
  obtain ⟨dx, l, h, hl⟩ := r1.ex
  exact ⟨_, hd, x, dx, _, rfl, h, jf_no hm.1 hm.2.1 hm.2.2.1 hm.2.2.2, hs W1 g1.pure r1 Q fun u W2 g2 hr => k u W2 (.of g2) hr⟩
end
/-- what may have changed, and what is new -/
def New (W : Wd) (i i' : Addr) : Prop := i' = i ∨ W.H i' = none
def sp_rising (K : Fg) : Sp := fun vs H Q _ => ∃ (W : Wd) (d : Addr) (kv : Ins), W.H = H ∧ vs = [.ref d] ∧ DMut K W d kv ∧ (kv.map (·.1)).Nodup ∧ (∀ q ∈ kv, 0 < q.2) ∧ kv.length < 64 ∧ ∀ p W', Grow W W' → W.H p = none → DMut K W' p (srt kv) → Q (.ref p) W'.H
theorem len_rising {K : Fg} {vs : List V} {H : Hp} {Q : VK} {E : XK} (h : sp_rising K vs H Q E) : vs.length = ["counts"].length := by
  obtain ⟨W, d, kv, _, rfl, _⟩ := h
  rfl
/-- rising: the slots 0 counts, 1 name -/
abbrev n_rising : List Str := ["counts", "name"]
def t_rising (K : Fg) : TS := (tRet (tDc (iList K (tCB rSortedDS (tCons (tVar 0) tNil))) (gName 1) (tTest (tOp oGt (tDGet (tVar 0) (tVar 1)) (tC (.int 0)))) (tVar 1) (tDGet (tVar 0) (tVar 1)) [1]))
def sp_need_many (K : Fg) : Sp := fun vs H Q E => ∃ (W : Wd) (v : V) (o : Odd) (b : Int), W.H = H ∧ vs = [v, .int b] ∧ rep K W.B v o ∧
  ((∃ a : Int, o = .int a ∧ 1 ≤ a ∧ a ≤ b ∧ ∀ W', Grow W W' → Q .non W'.H) ∨ ((∀ a : Int, o = .int a → ¬ (1 ≤ a ∧ a ≤ b)) ∧ ∀ W', Grow W W' → E (.ref (cErr K "NoMany")) none W'.H))
theorem len_need_many {K : Fg} {vs : List V} {H : Hp} {Q : VK} {E : XK} (h : sp_need_many K vs H Q E) : vs.length = ["thing", "most"].length := by
  obtain ⟨W, v, o, b, _, rfl, _⟩ := h
  rfl
/-- need_many: the slots 0 thing, 1 most -/
abbrev n_need_many : List Str := ["thing", "most"]
def t_need_many (K : Fg) (E : XK) : TS := (tIfS (tOr (tNot (tB (tCall (sp_is_whole K) [] E0 (tCons (tVar 0) tNil)))) (tNot (tTest (tChain oLe oLe (tC (.int 1)) (tVar 0) (tVar 1))))) (BX.tRaiseO (cErr K "NoMany") E) tNext)
def sp_Jars___init__ (K : Fg) (CL CJ : Addr) : Sp := fun vs H Q E => ∃ (W : Wd) (x dx : Addr) (v u : V) (names : List Str) (o : Odd), W.H = H ∧ vs = [.ref x, v, u] ∧ W.B x = none ∧ W.H x = some (.ins CJ dx []) ∧ LetAt K CL names v W ∧ rep K W.B u o ∧
  ((∃ n : Nat, o = .int n ∧ 1 ≤ n ∧ n ≤ 8 ∧ ∀ W' i d, Md [x] W W' → JarAt K CL CJ W' x i d names n ([], []) → W.H i = none → W.H d = none → Q .non W'.H) ∨
    ((∀ a : Int, o = .int a → ¬ (1 ≤ a ∧ a ≤ 8)) ∧ ∀ W', Grow W W' → E (.ref (cErr K "NoMany")) none W'.H))
theorem len_Jars___init__ {K : Fg} {CL CJ : Addr} {vs : List V} {H : Hp} {Q : VK} {E : XK} (h : sp_Jars___init__ K CL CJ vs H Q E) : vs.length = ["self", "letters", "many"].length := by
  obtain ⟨W, x, dx, v, u, names, o, _, rfl, _⟩ := h
  rfl
/-- Jars.__init__: the slots 0 self, 1 letters, 2 many -/
abbrev n_Jars___init__ : List Str := ["self", "letters", "many"]
def t_Jars___init__ (K : Fg) (c_Letters : Addr) (c_Jars : Addr) (E : XK) : TS := (tSeq (tDrop (tCall (sp_need_many K) [] E (tCons (tVar 2) (tCons (tC (.int 8)) tNil))))
  (tSeq (sFld K (tVar 0) (tVar 1) "own_letters")
  (tSeq (sFld K (tVar 0) (tVar 2) "jar_number")
  (tSeq (sFld K (tVar 0) tDNewK "inside")
  (sFld K (tVar 0) tDNewK "lost")))))
def sp_Jars_letters (K : Fg) (CJ : Addr) : Sp := fun vs H Q _ => ∃ (CL : Addr) (W : Wd) (x i d : Addr) (names : List Str) (n : Nat) (s : Ins × Lots), W.H = H ∧ vs = [.ref x] ∧ JarAt K CL CJ W x i d names n s ∧ ∀ v W', Grow W W' → LetAt K CL names v W' → Q v W'.H
theorem len_Jars_letters {K : Fg} {CJ : Addr} {vs : List V} {H : Hp} {Q : VK} {E : XK} (h : sp_Jars_letters K CJ vs H Q E) : vs.length = ["self"].length := by
  obtain ⟨CL, W, x, i, d, names, n, s, _, rfl, _⟩ := h
  rfl
/-- Jars.letters: the slots 0 self -/
abbrev n_Jars_letters : List Str := ["self"]
def t_Jars_letters (K : Fg) (c_Jars : Addr) : TS := (tRet (tFld K (tVar 0) "own_letters"))
def sp_Jars_many (K : Fg) (CJ : Addr) : Sp := fun vs H Q _ => ∃ (CL : Addr) (W : Wd) (x i d : Addr) (names : List Str) (n : Nat) (s : Ins × Lots), W.H = H ∧ vs = [.ref x] ∧ JarAt K CL CJ W x i d names n s ∧ ∀ W', Grow W W' → Q (.int n) W'.H
theorem len_Jars_many {K : Fg} {CJ : Addr} {vs : List V} {H : Hp} {Q : VK} {E : XK} (h : sp_Jars_many K CJ vs H Q E) : vs.length = ["self"].length := by
  obtain ⟨CL, W, x, i, d, names, n, s, _, rfl, _⟩ := h
  rfl
/-- Jars.many: the slots 0 self -/
abbrev n_Jars_many : List Str := ["self"]
def t_Jars_many (K : Fg) (c_Jars : Addr) : TS := (tRet (tFld K (tVar 0) "jar_number"))
def sp_Jars_counts (K : Fg) (CJ : Addr) : Sp := fun vs H Q _ => ∃ (CL : Addr) (W : Wd) (x i d : Addr) (names : List Str) (n : Nat) (s : Ins × Lots), W.H = H ∧ vs = [.ref x] ∧ JarAt K CL CJ W x i d names n s ∧ InsOk names n s.1 ∧ n ≤ 8 ∧ ∀ p W', Grow W W' → W.H p = none → DMut K W' p (srt s.1) → Q (.ref p) W'.H
theorem len_Jars_counts {K : Fg} {CJ : Addr} {vs : List V} {H : Hp} {Q : VK} {E : XK} (h : sp_Jars_counts K CJ vs H Q E) : vs.length = ["self"].length := by
  obtain ⟨CL, W, x, i, d, names, n, s, _, rfl, _⟩ := h
  rfl
/-- Jars.counts: the slots 0 self -/
abbrev n_Jars_counts : List Str := ["self"]
def t_Jars_counts (K : Fg) (c_Jars : Addr) : TS := (tRet (tCall (sp_rising K) [] E0 (tCons (tFld K (tVar 0) "inside") tNil)))
def sp_Jars_lots (K : Fg) (CJ : Addr) : Sp := fun vs H Q _ => ∃ (CL : Addr) (W : Wd) (x i d : Addr) (names : List Str) (n : Nat) (s : Ins × Lots), W.H = H ∧ vs = [.ref x] ∧ JarAt K CL CJ W x i d names n s ∧ LotsOk n s.2 ∧ ∀ p W', Grow W W' → W.H p = none → DMut K W' p (srtI s.2) → Q (.ref p) W'.H
theorem len_Jars_lots {K : Fg} {CJ : Addr} {vs : List V} {H : Hp} {Q : VK} {E : XK} (h : sp_Jars_lots K CJ vs H Q E) : vs.length = ["self"].length := by
  obtain ⟨CL, W, x, i, d, names, n, s, _, rfl, _⟩ := h
  rfl
/-- Jars.lots: the slots 0 self, 1 size -/
abbrev n_Jars_lots : List Str := ["self", "size"]
def t_Jars_lots (K : Fg) (c_Jars : Addr) : TS := (tRet (tDc (iList K (tCB rSortedDI (tCons (tFld K (tVar 0) "lost") tNil))) (gName 1) tYes (tVar 1) (tDGet (tFld K (tVar 0) "lost") (tVar 1)) [1]))
/-- how much was fed -/
def fedOf (s : Ins × Lots) : Int := (s.1.map (·.2)).sum + (s.2.map fun q => q.1 * q.2).sum
def sp_Jars_fed (K : Fg) (CJ : Addr) : Sp := fun vs H Q _ => ∃ (CL : Addr) (W : Wd) (x i d : Addr) (names : List Str) (n : Nat) (s : Ins × Lots), W.H = H ∧ vs = [.ref x] ∧ JarAt K CL CJ W x i d names n s ∧ LotsOk n s.2 ∧ ∀ W', Grow W W' → Q (.int (fedOf s)) W'.H
theorem len_Jars_fed {K : Fg} {CJ : Addr} {vs : List V} {H : Hp} {Q : VK} {E : XK} (h : sp_Jars_fed K CJ vs H Q E) : vs.length = ["self"].length := by
  obtain ⟨CL, W, x, i, d, names, n, s, _, rfl, _⟩ := h
  rfl
/-- Jars.fed: the slots 0 self, 1 size, 2 times -/
abbrev n_Jars_fed : List Str := ["self", "size", "times"]
def t_Jars_fed (K : Fg) (c_Jars : Addr) : TS := (tRet (tOp oAdd (tCB rSumV (tCons (tVals (tFld K (tVar 0) "inside")) tNil)) (tCB (rSum K) (tCons (tLockE (tLc (iItems (tFld K (tVar 0) "lost")) (gPair K 1 2) tYes (tOp oMul (tVar 1) (tVar 2)) [1, 2])) tNil))))
def sp_Jars_add_lots (K : Fg) (CJ : Addr) : Sp := fun vs H Q _ => ∃ (CL : Addr) (W : Wd) (x i d : Addr) (names : List Str) (n : Nat) (s : Ins × Lots) (a b : Int), W.H = H ∧ vs = [.ref x, .int a, .int b] ∧ JarAt K CL CJ W x i d names n s ∧ s.2.length ≤ 1000 ∧
  ∀ W', Md [d] W W' → JarAt K CL CJ W' x i d names n (s.1, addLot s.2 a b) → Q .non W'.H
theorem len_Jars_add_lots {K : Fg} {CJ : Addr} {vs : List V} {H : Hp} {Q : VK} {E : XK} (h : sp_Jars_add_lots K CJ vs H Q E) : vs.length = ["self", "size", "times"].length := by
  obtain ⟨CL, W, x, i, d, names, n, s, a, b, _, rfl, _⟩ := h
  rfl
/-- Jars.add_lots: the slots 0 self, 1 size, 2 times -/
abbrev n_Jars_add_lots : List Str := ["self", "size", "times"]
def t_Jars_add_lots (K : Fg) (c_Jars : Addr) : TS := (sDPut (tFld K (tVar 0) "lost") (tVar 1) (tOp oAdd (tDGet2 (tFld K (tVar 0) "lost") (tVar 1) (tC (.int 0))) (tVar 2)))
def sp_Jars_taken_off (K : Fg) (CJ : Addr) : Sp := fun vs H Q _ => ∃ (CL : Addr) (W : Wd) (x i d : Addr) (names : List Str) (n : Nat) (s : Ins × Lots) (t : Int), W.H = H ∧ vs = [.ref x, .int t] ∧ JarAt K CL CJ W x i d names n s ∧ InsOk names n s.1 ∧ n ≤ 8 ∧ s.2.length ≤ 1000 ∧
  ∀ W' i', Md [x, i, d] W W' → JarAt K CL CJ W' x i' d names n (off s.1 t, addLot s.2 (n + 1) t) → New W i i' → Q (.int t) W'.H
theorem len_Jars_taken_off {K : Fg} {CJ : Addr} {vs : List V} {H : Hp} {Q : VK} {E : XK} (h : sp_Jars_taken_off K CJ vs H Q E) : vs.length = ["self", "times"].length := by
  obtain ⟨CL, W, x, i, d, names, n, s, t, _, rfl, _⟩ := h
  rfl
/-- Jars.taken_off: the slots 0 self, 1 times, 2 name, 3 count -/
abbrev n_Jars_taken_off : List Str := ["self", "times", "name", "count"]
def t_Jars_taken_off (K : Fg) (c_Jars : Addr) : TS := (tSeq (sFld K (tVar 0) (tLockE (tDc (iItems (tFld K (tVar 0) "inside")) (gPair K 2 3) (tTest (tOp oGt (tVar 3) (tVar 1))) (tVar 2) (tOp oSub (tVar 3) (tVar 1)) [2, 3])) "inside")
  (tSeq (tDrop (tMeth c_Jars "add_lots" (sp_Jars_add_lots K c_Jars) [] E0 (tVar 0) (tCons (tOp oAdd (tFld K (tVar 0) "jar_number") (tC (.int 1))) (tCons (tVar 1) tNil))))
  (tRet (tVar 1))))
def sp_Jars_put_in (K : Fg) (CJ : Addr) : Sp := fun vs H Q _ => ∃ (CL : Addr) (W : Wd) (x i d : Addr) (names : List Str) (n : Nat) (b : Int) (s : Ins × Lots) (name : Str) (t : Nat), W.H = H ∧ vs = [.ref x, .str name, .int t] ∧ JarAt K CL CJ W x i d names n s ∧ JOk names n b s ∧ name ∈ names ∧
  ∀ W' i', Md [x, i, d] W W' → JarAt K CL CJ W' x i' d names n (Nat.repeat (one n name) t s) → New W i i' → Q .non W'.H
theorem len_Jars_put_in {K : Fg} {CJ : Addr} {vs : List V} {H : Hp} {Q : VK} {E : XK} (h : sp_Jars_put_in K CJ vs H Q E) : vs.length = ["self", "letter", "times"].length := by
  obtain ⟨CL, W, x, i, d, names, n, b, s, name, t, _, rfl, _⟩ := h
  rfl
/-- Jars.put_in: the slots 0 self, 1 letter, 2 times, 3 left -/
abbrev n_Jars_put_in : List Str := ["self", "letter", "times", "left"]
def t_Jars_put_in (K : Fg) (c_Jars : Addr) : TS := (tSeq (tAsg (tVar 2) (gName 3))
  (tWhile (tTest (tOp oGt (tVar 3) (tC (.int 0))))
  (tIfS (tOr (tB (tDIn (tVar 1) (tFld K (tVar 0) "inside"))) (tTest (tOp oLt (tCB rLenD (tCons (tFld K (tVar 0) "inside") tNil)) (tFld K (tVar 0) "jar_number")))) (tSeq (sDPut (tFld K (tVar 0) "inside") (tVar 1) (tOp oAdd (tDGet2 (tFld K (tVar 0) "inside") (tVar 1) (tC (.int 0))) (tVar 3)))
  (tAsg (tC (.int 0)) (gName 3))) (tAug 3 (tMeth c_Jars "taken_off" (sp_Jars_taken_off K c_Jars) [] E0 (tVar 0) (tCons (tCB rMin2 (tCons (tVar 3) (tCons (tCB rMinV (tCons (tVals (tFld K (tVar 0) "inside")) tNil)) tNil))) tNil)) (ipI fun i j => i - j)))))
def sp_Jars_feed (K : Fg) (CL CJ : Addr) : Sp := fun vs H Q E => ∃ (W : Wd) (x i d : Addr) (names : List Str) (n : Nat) (s : Ins × Lots) (u z : V), W.H = H ∧ vs = [.ref x, u, z] ∧ JarAt K CL CJ W x i d names n s ∧
  ((∃ (b : Int) (name : Str) (t : Nat), u = .str name ∧ z = .int t ∧ JOk names n b s ∧ name ∈ names ∧ 1 ≤ t ∧ t ≤ 1000000000 ∧ ∀ W' i', Md [x, i, d] W W' → JarAt K CL CJ W' x i' d names n (Nat.repeat (one n name) t s) → New W i i' → Q .non W'.H) ∨
    (∃ b, LetK K u b W ∧ hasB names u = false ∧ ∀ W' dd, Grow W W' → W'.H dd = some (.xd [("name", u)]) → E (.ref (cErr K "NoLetter")) (some dd) W'.H) ∨
    (∃ (name : Str) (o : Odd), u = .str name ∧ name ∈ names ∧ rep K W.B z o ∧ (∀ a : Int, o = .int a → ¬ (1 ≤ a ∧ a ≤ 1000000000)) ∧ ∀ W', Grow W W' → E (.ref (cErr K "NoTimes")) none W'.H))
theorem len_Jars_feed {K : Fg} {CL CJ : Addr} {vs : List V} {H : Hp} {Q : VK} {E : XK} (h : sp_Jars_feed K CL CJ vs H Q E) : vs.length = ["self", "letter", "times"].length := by
  obtain ⟨W, x, i, d, names, n, s, u, z, _, rfl, _⟩ := h
  rfl
/-- Jars.feed: the slots 0 self, 1 letter, 2 times -/
abbrev n_Jars_feed : List Str := ["self", "letter", "times"]
def t_Jars_feed (K : Fg) (c_Letters : Addr) (c_Jars : Addr) (E : XK) : TS := (tSeq (tDrop (tMeth c_Letters "rank" (sp_Letters_rank K c_Letters) [] E (tFld K (tVar 0) "own_letters") (tCons (tVar 1) tNil)))
  (tSeq (tIfS (tOr (tNot (tB (tCall (sp_is_whole K) [] E0 (tCons (tVar 2) tNil)))) (tNot (tTest (tChain oLe oLe (tC (.int 1)) (tVar 2) (tC (.int 1000000000)))))) (BX.tRaiseO (cErr K "NoTimes") E) tNext)
  (tDrop (tMeth c_Jars "put_in" (sp_Jars_put_in K c_Jars) [] E0 (tVar 0) (tCons (tVar 1) (tCons (tVar 2) tNil))))))
def sp_Jars_kept (K : Fg) (CJ : Addr) : Sp := fun vs H Q _ => ∃ (W : Wd) (v : V), W.H = H ∧ vs = [v] ∧ ∀ W', Grow W W' → Q .non W'.H
theorem len_Jars_kept {K : Fg} {CJ : Addr} {vs : List V} {H : Hp} {Q : VK} {E : XK} (h : sp_Jars_kept K CJ vs H Q E) : vs.length = ["self"].length := by
  obtain ⟨W, v, _, rfl, _⟩ := h
  rfl
end B
/-! jars: that the readings keep the promises -/
namespace B
open PySem L2
open PySem.W (Tup T3 T4 Datum DatumOrd)
open Evl (Ex)
section
variable {K : Fg} {W : Wd} {σ : SS} {ε : Ef} {te : TE} {d : Addr}
theorem ev_sortedDSE {α : Type} [Py α] {kv : List (Str × α)} (hd : EvR ε K te σ W (Raw.mk (.ref d))) (m : DStay ε K W d kv) (hl : kv.length < 64) : EvR ε K (tCB rSortedDS (tCons te tNil)) σ W (sortS (kv.map (·.1))) := fun W1 g1 Q k => hd W1 g1 _ fun v W2 g2 e => by
  obtain ⟨ks, e3, r⟩ := m _ (g1.trans g2)
  exact ⟨d, ks, kv.map (·.1), by rw [show v = V.ref d from e], .inl e3, kreps_keysS r, by simpa using hl, fun ys p h1 h2 hp => by
    rw [sortS_eq h1 (sorted_pw h2)]
    exact k _ (W2.add p _) (g2.and (W2.grow_add hp)) ⟨p, _, rfl, upd_same, str_reps _⟩⟩
theorem ev_sortedDIE {α : Type} [Py α] {kv : List (Int × α)} (hd : EvR ε K te σ W (Raw.mk (.ref d))) (m : DStay ε K W d kv) (hl : kv.length < 64) : EvR ε K (tCB rSortedDI (tCons te tNil)) σ W (sortI (kv.map (·.1))) := fun W1 g1 Q k => hd W1 g1 _ fun v W2 g2 e => by
  obtain ⟨ks, e3, r⟩ := m _ (g1.trans g2)
  exact ⟨d, ks, kv.map (·.1), by rw [show v = V.ref d from e], .inl e3, kreps_keysI r, by simpa using hl, fun ys p h1 h2 hp => by
    have e2 : ys = sortI (kv.map (·.1)) := (h1.trans (sortI_perm _).symm).eq_of_pairwise (fun a b _ _ h h' => Int.le_antisymm h h') h2 (sortI_pw _)
    subst e2
    exact k _ (W2.add p _) (g2.and (W2.grow_add hp)) ⟨p, _, rfl, upd_same, int_reps _⟩⟩
/-- a field read, whatever stands there -/
theorem ev_fldH {C x dx : Addr} {f : Str} {fs : List (Str × V)} {v : V} {j : Nat} (c : Cls K C) (n : NoAttr K C f) (hd : σ[j]? = some (some (.ref x))) (hh : W.H x = some (.ins C dx fs)) (hl : fs.lookup f = some v) : EvR pur K (tFld K (tVar j) f) σ W (Raw.mk v) := fun W1 g1 Q k =>
  ⟨_, hd, x, C, dx, fs, v, rfl, g1.pure.h _ _ hh, c, n, hl, k v W1 g1.rf rfl⟩
theorem klook_getD {κ : Type} [DecidableEq κ] {kv : List (κ × Int)} {k : κ} (h : k ∈ kv.map (·.1)) : klook kv k = some ((klook kv k).getD 0) := by
  cases e : klook kv k with
  | some v => rfl
  | none => exact absurd h (klook_none.mp e)
theorem putF_len {f : Str} {v : V} : ∀ fs : List (Str × V), (putF f v fs).length ≤ fs.length + 1
  | [] => by simp [putF]
  | (g, x) :: r => by
    unfold putF
    split
    · simp
    · have := putF_len (f := f) (v := v) r
      rw [List.length_cons, List.length_cons]; omega
theorem was_none {S : List Addr} {W W' : Wd} {p : Addr} (g : Md S W W') (f : W'.H p = none) : W.H p = none := by
  cases q : W.H p with
  | none => rfl
  | some o => exact absurd f (g.d p (by rw [q]; exact fun z => by cases z))
theorem ev_isWholeO {o : Odd} (h : EvR pur K te σ W o) : EvR pur K (tCall (sp_is_whole K) [] E0 (tCons te tNil)) σ W (o.isI && !o.isB) :=
  (ev_callP1 (P := fun v W => rep K W.B v o) (R := fun v W => rep K W.B v (o.isI && !o.isB)) h fun v W1 g e Q k => ⟨W1, v, o, rfl, rfl, e, fun W' g' => k _ W' (.of g') rfl⟩ : EvP _ _ _ _ _)
theorem ev_isWhole {n : Int} (h : EvR pur K te σ W n) : EvR pur K (tCall (sp_is_whole K) [] E0 (tCons te tNil)) σ W true := ev_isWholeO (o := .int n) h
end
section
variable {K : Fg} {CL CJ : Addr} {W W' : Wd} {x i d : Addr} {names : List Str} {n : Nat} {s : Ins × Lots} {σ : SS} {ta tb : TE} {j : Nat} {m : Str} {sp : Sp} {α β : Type} [Py α] [Py β] {a : α} {b : β}
/-- a method of jars called with one value, with two -/
theorem jm1 {Q : VK} (hd : σ[j]? = some (some (.ref x))) (r : JarAt K CL CJ W x i d names n s) (hm : ¬ m = "own_letters" ∧ ¬ m = "jar_number" ∧ ¬ m = "inside" ∧ ¬ m = "lost") (ha : EvR pur K ta σ W a)
    (k : ∀ v W1, Grow W W1 → rep K W1.B v a → JarAt K CL CJ W1 x i d names n s → sp [.ref x, v] W1.H Q E0) : tMeth CJ m sp [] E0 (tVar j) (tCons ta tNil) σ W.H Q := by
  obtain ⟨dx, l, h, hl⟩ := r.ex
  exact ⟨_, hd, x, dx, _, rfl, h, jf_no hm.1 hm.2.1 hm.2.2.1 hm.2.2.2, ha W (.start trivial) _ fun v W1 g rv => k v W1 g.pure rv (r.gr g.pure)⟩
theorem jm2 {Q : VK} (hd : σ[j]? = some (some (.ref x))) (r : JarAt K CL CJ W x i d names n s) (hm : ¬ m = "own_letters" ∧ ¬ m = "jar_number" ∧ ¬ m = "inside" ∧ ¬ m = "lost") (ha : EvR pur K ta σ W a) (hb : EvR pur K tb σ W b)
    (k : ∀ v u W1, Grow W W1 → rep K W1.B v a → rep K W1.B u b → JarAt K CL CJ W1 x i d names n s → sp [.ref x, v, u] W1.H Q E0) : tMeth CJ m sp [] E0 (tVar j) (tCons ta (tCons tb tNil)) σ W.H Q := by
  obtain ⟨dx, l, h, hl⟩ := r.ex
  exact ⟨_, hd, x, dx, _, rfl, h, jf_no hm.1 hm.2.1 hm.2.2.1 hm.2.2.2, ha W (.start trivial) _ fun v W1 g rv => hb W1 g _ fun u W2 g2 ru => k v u W2 (g.trans g2).pure (rep_s g2 rv) ru (r.gr (g.trans g2).pure)⟩
end
section
variable {K : Fg} {vs : List V} {H : Hp} {Q : VK} {E : XK} {CL CJ : Addr}
theorem rd_rising (h : sp_rising K vs H Q E) : t_rising K { nx := fun _ H' => Q .non H', rt := Q } (start n_rising vs) H := by
  obtain ⟨W, d, kv, rfl, rfl, m, nd, pos, hl, k⟩ := h
  have hv : ∀ {σ : SS} {W' : Wd}, σ[0]? = some (some (.ref d)) → EvR pur K (tVar 0) σ W' (Raw.mk (.ref d)) := fun h => ev_rvar h
  have mm : ∀ x, x ∈ sortS (kv.map (·.1)) → x ∈ kv.map (·.1) := fun x hx => (sortS_perm _).mem_iff.mp hx
  refine s_retM (ε := pur) ((em_dcN (β := Int) (p := fun x => decide ((klook kv x).getD 0 > 0)) (f := fun x : Str => (x, (klook kv x).getD 0)) (ei_list (ev_sortedDSE (hv rfl) m.pur hl)).i
    (fun x v W' hx g r => et_test (ev_op (ev_dgetE (hv rfl) (m.gr g.pure).pur (ek_str (ev_var rfl r)) (klook_getD (mm x hx))) ev_int ro_B0)) (fun x v W' hx hp g r => ek_str (ev_var rfl r))
    (fun x v W' hx hp g r => ev_dgetE (hv rfl) (m.gr g.pure).pur (ek_str (ev_var rfl r)) (klook_getD (mm x hx))) (by have := (sortS_perm (kv.map (·.1))).length_eq; rw [List.length_map] at this; omega)).is (?_ : _ = srt kv)) trivial fun p W' g f m => k p W' g.pure f m
  have all : (sortS (kv.map (·.1))).filter (fun x => decide ((klook kv x).getD 0 > 0)) = sortS (kv.map (·.1)) := List.filter_eq_self.mpr fun x hx => by
    have h1 := klook_getD (mm x hx)
    exact decide_eq_true (pos _ (klook_mem h1))
  rw [all]
  show kfill (srt kv) = srt kv
  exact kfill_id (by unfold srt; rw [byKeys_keys]; exact (sortS_perm _).nodup_iff.mpr nd)
theorem rd_need_many (h : sp_need_many K vs H Q E) : t_need_many K E { nx := fun _ H' => Q .non H', rt := Q } (start n_need_many vs) H := by
  obtain ⟨W, v, o, b, rfl, rfl, r, h⟩ := h
  have e : ∀ {i : Int} {W : Wd}, rep K W.B (V.int i) i := rfl
  rcases h with ⟨a, rfl, h1, h2, k⟩ | ⟨bad, k⟩
  · have r : v = V.int a := r
    subst r
    exact s_when (ε := pur) (b := false) ((et_or (a := false) ((et_not (et_B (ev_isWhole (ev_var rfl e)))).is rfl) fun _ => et_not (et_test (ev_chain ev_int (ev_var rfl e) (ev_var rfl e) ro_B0 ro_B0))).is (by simp [h1, h2])) trivial (fun z => by cases z) fun _ W1 g1 => k W1 g1.pure
  · cases hw : (o.isI && !o.isB) with
    | false => exact s_when (ε := pur) (b := true) ((et_or (a := true) (b := false) ((et_not (et_B (ev_isWholeO (ev_var (i := 0) rfl r)))).is (by rw [hw]; rfl)) fun z => by cases z).is rfl) trivial (fun _ W1 g1 => k W1 g1.pure) (fun z => by cases z)
    | true =>
      cases o with
      | int a =>
        have r : v = V.int a := r
        subst r
        have nb : (decide (1 ≤ a) && decide (a ≤ b)) = false := by
          have := bad a rfl
          simpa using this
        exact s_when (ε := pur) (b := true) ((et_or (a := false) ((et_not (et_B (ev_isWhole (ev_var rfl e)))).is rfl) fun _ => et_not (et_test (ev_chain ev_int (ev_var rfl e) (ev_var rfl e) ro_B0 ro_B0))).is (by rw [nb]; rfl)) trivial (fun _ W1 g1 => k W1 g1.pure) (fun z => by cases z)
      | bl _ => cases hw
      | non => cases hw
      | str _ => cases hw
      | tup _ => cases hw
      | lst _ => cases hw
      | dct => cases hw
theorem ev_needMany {W : Wd} {σ : SS} {ta tb : TE} {a b : Int} {E : XK} (ha : EvR pur K ta σ W a) (hb : EvR pur K tb σ W b) (h1 : 1 ≤ a) (h2 : a ≤ b) : EvP pur (tCall (sp_need_many K) [] E (tCons ta (tCons tb tNil))) σ W (fun _ _ => True) :=
  ev_callP2 (P := fun v _ => v = V.int a) (P2 := fun v _ => v = V.int b) ha hb (fun _ _ _ _ e => e) fun v u W1 g e e' Q k => ⟨W1, v, .int a, b, rfl, by rw [e'], e, .inl ⟨a, rfl, h1, h2, fun W' g' => k _ W' (.of g') trivial⟩⟩
/-- what is no number of them is refused -/
theorem s_needBad {W : Wd} {σ : SS} {ta tb : TE} {o : Odd} {b : Int} {E : XK} {tz : TS} {D : Ends} (ha : EvR pur K ta σ W o) (hb : EvR pur K tb σ W b) (bad : ∀ a : Int, o = .int a → ¬ (1 ≤ a ∧ a ≤ b)) (k : ∀ W', Grow W W' → E (.ref (cErr K "NoMany")) none W'.H) :
    tSeq (tDrop (tCall (sp_need_many K) [] E (tCons ta (tCons tb tNil)))) tz D σ W.H := ha W (.start trivial) _ fun v W1 g1 r1 => hb W1 g1 _ fun u W2 g2 r2 => ⟨W2, v, o, b, rfl, by rw [show u = V.int b from r2]; rfl, rep_s g2 r1, .inr ⟨bad, fun W' g => k W' ((g1.trans g2).pure.trans g)⟩⟩
theorem rd_Jars___init__ (cl : LettersC K CL) (c : JarsC K CJ) (h : sp_Jars___init__ K CL CJ vs H Q E) : t_Jars___init__ K CL CJ E { nx := fun _ H' => Q .non H', rt := Q } (start n_Jars___init__ vs) H := by
  obtain ⟨W, x, dx, v, u, names, o, rfl, rfl, hb, hh, hl, ru, h⟩ := h
  rcases h with ⟨n, rfl, h1, h8, k⟩ | ⟨bad, k⟩
  rotate_left
  · exact s_needBad (ev_var (i := 2) rfl ru) (ev_int (n := 8)) bad k
  obtain rfl : u = V.int n := ru
  refine q_drop (ε := pur) (ev_needMany (ev_var rfl (x := (n : Int)) rfl) (ev_int (n := 8)) (by omega) (by omega)) trivial fun _ W1 g1' _ => ?_
  have g1 := g1'.pure
  have m1 := g1.mut (by simp) hh hb
  refine q_fldP c.i.cl c.n1 rfl m1.2 m1.1 (by show 0 < 1000; decide) (ep_var (i := 1) rfl (hl.g g1) fun W' g => LetAt.s (ε := pur) (hl.g g1) g) fun v2 W1' W2 g1'' hl2 m2 o2 _ _ b2 hh2 => ?_
  refine q_fld (K := K) (y := (n : Int)) c.i.cl c.n2 rfl b2 hh2 (by show 1 < 1000; decide) (ev_var (i := 2) rfl rfl) fun v3 W3 m3 o3 b3 hh3 r3 => ?_
  rw [show v3 = _ from r3] at hh3
  have pd : EvP pur tDNewK [some (.ref x), some v, some (.int n)] W3 (fun v W => ∃ p, v = .ref p ∧ DMut K W p ([] : Ins) ∧ W3.H p = none) := fun W1 g Q q => em_new (κ := Str) (α := Int) (K := K) W1 g Q fun p W2 g2 f m => q _ W2 g2 ⟨p, rfl, m, was_none g.md f⟩
  refine q_fldP c.i.cl c.n3 rfl b3 hh3 (by show 2 < 1000; decide) pd fun v4 W3' W4 g4 ⟨i, e4, mi, fi⟩ m4 o4 _ hx4 b4 hh4 => ?_
  subst e4
  have ix : i ≠ x := fun z => by rw [z, hh3] at fi; cases fi
  have mi4 := mi.g m4 (by simpa using ix)
  have pd2 : EvP pur tDNewK [some (.ref x), some v, some (.int n)] W4 (fun v W => ∃ p, v = .ref p ∧ DMut K W p ([] : Lots) ∧ W4.H p = none) := fun W1 g Q q => em_new (κ := Int) (α := Int) (K := K) W1 g Q fun p W2 g2 f m => q _ W2 g2 ⟨p, rfl, m, was_none g.md f⟩
  refine s_fldP c.i.cl c.n4 rfl b4 hh4 (by refine Nat.lt_of_le_of_lt (putF_len _) (Nat.lt_of_le_of_lt (Nat.add_le_add_right (putF_len _) 1) (Nat.lt_of_le_of_lt (Nat.add_le_add_right (Nat.add_le_add_right (putF_len _) 1) 1) ?_)); show 3 < 1000; decide) pd2 fun v5 W4' W5 g5 ⟨d, e5, md, fd⟩ m5 o5 _ hx5 b5 hh5 => ?_
  subst e5
  have dx' : d ≠ x := fun z => by rw [z, hh4] at fd; cases fd
  have di : d ≠ i := fun z => by
    obtain ⟨ks, e, _⟩ := mi4.ex
    rw [z, e] at fd; cases fd
  have md5 := md.g m5 (by simpa using dx')
  have mi5 := (mi4.gr g5).g m5 (by simpa using ix)
  have M3 : Md [x] W W3 := (((Grow.s g1).trans (Grow.s g1'')).trans m2).trans m3
  have M4 : Md [x] W W4 := M3.trans ((Grow.s g4).trans m4)
  exact k W5 i d (M4.trans ((Grow.s g5).trans m5)) ⟨b5, ⟨dx, v2, hh5, ((((hl2.on o2).on o3).g g4).on o4 |>.g g5).on o5⟩, mi5, md5, fun z => di z.symm⟩ (was_none M3 fi) (was_none M4 fd)
theorem rd_Jars_letters (c : JarsC K CJ) (h : sp_Jars_letters K CJ vs H Q E) : t_Jars_letters K CJ { nx := fun _ H' => Q .non H', rt := Q } (start n_Jars_letters vs) H := by
  obtain ⟨CL, W, x, i, d, names, n, s, rfl, rfl, r, k⟩ := h
  exact s_retP (ε := pur) (ep_jlet c rfl r (by simp [pur])) trivial fun v W' g hl => k v W' g.pure hl
theorem rd_Jars_many (c : JarsC K CJ) (h : sp_Jars_many K CJ vs H Q E) : t_Jars_many K CJ { nx := fun _ H' => Q .non H', rt := Q } (start n_Jars_many vs) H := by
  obtain ⟨CL, W, x, i, d, names, n, s, rfl, rfl, r, k⟩ := h
  refine s_ret (ε := pur) (K := K) (ev_jnum c rfl r (by simp [pur])) trivial fun v W' g rv => ?_
  rw [show v = _ from rv]
  exact k W' g.pure
theorem rd_Jars_counts (c : JarsC K CJ) (h : sp_Jars_counts K CJ vs H Q E) : t_Jars_counts K CJ { nx := fun _ H' => Q .non H', rt := Q } (start n_Jars_counts vs) H := by
  obtain ⟨CL, W, x, i, d, names, n, s, rfl, rfl, r, hi, h8, k⟩ := h
  refine s_retP (ε := pur) (ev_callP1 (P := fun v _ => v = V.ref i) (R := fun v W' => ∃ p, v = V.ref p ∧ W.H p = none ∧ DMut K W' p (srt s.1)) (ev_jins c rfl r (by simp [pur])) fun v W1 g e Q k => ⟨W1, i, s.1, rfl, by rw [e], (r.gr g.pure).mi, hi.nd, hi.pos, by have := hi.len; omega, fun p W' g' f m => k _ W' (.of g') ⟨p, rfl, was_none g.md f, m⟩⟩) trivial fun v W' g ⟨p, e, f, m⟩ => by rw [e]; exact k p W' g.pure f m
theorem rd_Jars_lots (c : JarsC K CJ) (h : sp_Jars_lots K CJ vs H Q E) : t_Jars_lots K CJ { nx := fun _ H' => Q .non H', rt := Q } (start n_Jars_lots vs) H := by
  obtain ⟨CL, W, x, i, d, names, n, s, rfl, rfl, r, hl, k⟩ := h
  have mm : ∀ y, y ∈ sortI (s.2.map (·.1)) → y ∈ s.2.map (·.1) := fun y hy => (sortI_perm _).mem_iff.mp hy
  have ll := hl.len
  refine s_retM (ε := pur) ((em_dcN (β := Int) (p := fun _ => true) (f := fun y : Int => (y, (klook s.2 y).getD 0)) (ei_list (ev_sortedDIE (ev_jlost c rfl r (by simp [pur])) r.md.pur (by omega))).i
    (fun y v W' hy g rv => et_yes) (fun y v W' hy hp g rv => ek_int (ev_var rfl rv))
    (fun y v W' hy hp g rv => ev_dgetE (ev_jlost c rfl (r.gr g.pure) (by simp [pur])) (r.gr g.pure).md.pur (ek_int (ev_var rfl rv)) (klook_getD (mm y hy))) (by have := (sortI_perm (s.2.map (·.1))).length_eq; rw [List.length_map] at this; omega)).is (?_ : _ = srtI s.2)) trivial fun p W' g f m => k p W' g.pure f m
  rw [filter_yes]
  show kfill (srtI s.2) = srtI s.2
  exact kfill_id (by unfold srtI; rw [byKeys_keys]; exact (sortI_perm _).nodup_iff.mpr hl.nd)
theorem rd_Jars_fed (c : JarsC K CJ) (h : sp_Jars_fed K CJ vs H Q E) : t_Jars_fed K CJ { nx := fun _ H' => Q .non H', rt := Q } (start n_Jars_fed vs) H := by
  obtain ⟨CL, W, x, i, d, names, n, s, rfl, rfl, r, hl, k⟩ := h
  obtain ⟨ks, e, rr⟩ := r.md.ex
  obtain ⟨dx, l, hx, _⟩ := r.ex
  have ll := hl.len
  have second : EvR pur K (tCB (rSum K) (tCons (tLockE (tLc (iItems (tFld K (tVar 0) "lost")) (gPair K 1 2) tYes (tOp oMul (tVar 1) (tVar 2)) [1, 2])) tNil)) [some (.ref x), none, none] W (s.2.map fun q => q.1 * q.2).sum :=
    ev_cb1 (ev_lock e fun WL lk => ev_lcP (α := Int) (β := Int) (f := fun q => q.1 * q.2) (ei_items (ev_fldH c.i.cl c.n4 rfl (lk.h x _ r.xi.2 hx) jf_d) lk.lk (KReps.mono (exExt lk.b) rr))
      (fun q v u W' hq g r1 r2 => ev_op (ev_var rfl r1) (ev_var rfl r2) (ro_I (C := CMul) (.inl (by have := hl.ok q hq; exact ⟨by omega, by omega⟩)))) (by omega)) rc_sum
  refine s_ret (ε := pur) (K := K) (x := fedOf s) (ev_op (ev_sumVE (ev_jins c rfl r (by simp [pur])) r.mi.pur) second ro_I0) trivial fun v W' g rv => ?_
  rw [show v = _ from rv]
  exact k W' g.pure
theorem JarAt.lot {K : Fg} {CL CJ : Addr} {W W' : Wd} {x i d : Addr} {names : List Str} {n : Nat} {s : Ins × Lots} {l' : Lots} (r : JarAt K CL CJ W x i d names n s) (g : Md [d] W W') (m : DMut K W' d l') : JarAt K CL CJ W' x i d names n (s.1, l') := by
  obtain ⟨dx, l, h, hl⟩ := r.ex
  have m' := g.mut (by simpa using r.xi.2) h r.b
  exact ⟨m'.2, ⟨dx, l, m'.1, hl.g g⟩, r.mi.g g (by simpa using r.ne), m, r.ne⟩
theorem JarAt.ins {K : Fg} {CL CJ : Addr} {W W' : Wd} {x i d : Addr} {names : List Str} {n : Nat} {s : Ins × Lots} {l' : Ins} (r : JarAt K CL CJ W x i d names n s) (g : Md [i] W W') (m : DMut K W' i l') : JarAt K CL CJ W' x i d names n (l', s.2) := by
  obtain ⟨dx, l, h, hl⟩ := r.ex
  have m' := g.mut (by simpa using r.xi.1) h r.b
  exact ⟨m'.2, ⟨dx, l, m'.1, hl.g g⟩, m, r.md.g g (by simpa using r.ne.symm), r.ne⟩
theorem rd_Jars_add_lots (c : JarsC K CJ) (h : sp_Jars_add_lots K CJ vs H Q E) : t_Jars_add_lots K CJ { nx := fun _ H' => Q .non H', rt := Q } (start n_Jars_add_lots vs) H := by
  obtain ⟨CL, W, x, i, d, names, n, s, a, b, rfl, rfl, r, hl, k⟩ := h
  have e : ∀ {i : Int} {W : Wd}, rep K W.B (V.int i) i := rfl
  refine s_dputE (ev_jlost c rfl r (by simp [pur])) r.md (ev_op (ev_dget2E (ev_jlost c rfl r (by simp [pur])) r.md.pur (ek_int (ev_var rfl e)) ev_int) (ev_var rfl e) ro_I0) (ek_int (ev_var rfl e)) (by omega) fun W' g o m => ?_
  exact k W' g (r.lot g m)
theorem rd_Jars_taken_off (c : JarsC K CJ) (h : sp_Jars_taken_off K CJ vs H Q E) : t_Jars_taken_off K CJ { nx := fun _ H' => Q .non H', rt := Q } (start n_Jars_taken_off vs) H := by
  obtain ⟨CL, W, x, i, d, names, n, s, t, rfl, rfl, r, hi, h8, hl, k⟩ := h
  have e : ∀ {i : Int} {W : Wd}, rep K W.B (V.int i) i := rfl
  obtain ⟨ks, ei, rr⟩ := r.mi.ex
  obtain ⟨dx, l, hx, hlet⟩ := r.ex
  have il := hi.len
  have dc : EvM pur K (tLockE (tDc (iItems (tFld K (tVar 0) "inside")) (gPair K 2 3) (tTest (tOp oGt (tVar 3) (tVar 1))) (tVar 2) (tOp oSub (tVar 3) (tVar 1)) [2, 3])) [some (.ref x), some (.int t), none, none] W (off s.1 t) :=
    em_lock ei fun WL lk _ => ((em_dcP (α := Str) (γ := Int) (β := Int) (p := fun q => decide (q.2 > t)) (f := fun q => (q.1, q.2 - t)) (ei_items (ev_fldH c.i.cl c.n3 rfl (lk.h x _ r.xi.1 hx) jf_i) lk.lk (KReps.mono (exExt lk.b) rr))
      (fun q v u W' hq g r1 r2 => et_test (ev_op (ev_var rfl r2) (ev_var rfl e) ro_B0)) (fun q v u W' hq hp g r1 r2 => ek_str (ev_var rfl r1)) (fun q v u W' hq hp g r1 r2 => ev_op (ev_var rfl r2) (ev_var rfl e) ro_I0) (by omega)).is (kfill_id (by
        have := (off_ok hi t).nd
        exact this)))
  refine q_fldP c.i.cl c.n3 rfl r.b hx jf_len (P := fun v W' => ∃ p, v = .ref p ∧ DMut K W' p (off s.1 t) ∧ W.H p = none) (fun W1 g Q q => dc W1 g Q fun p W2 g2 f m => q _ W2 g2 ⟨p, rfl, m, was_none g.md f⟩) fun v W1 W2 g1 ⟨p, ep, mp, fp⟩ m2 o2 b1 h1 b2 h2 => ?_
  subst ep
  rw [jf_putI] at h2
  have px : p ≠ x := fun z => by rw [z, hx] at fp; cases fp
  have pd : p ≠ d := fun z => by
    obtain ⟨ks, e, _⟩ := r.md.ex
    rw [z, e] at fp; cases fp
  have r2 : JarAt K CL CJ W2 x p d names n (off s.1 t, s.2) := ⟨b2, ⟨dx, l, h2, (hlet.g g1).on o2⟩, mp.g m2 (by simpa using px), (r.md.gr g1).g m2 (by simpa using r.xi.2.symm), pd⟩
  have M2 : Md [x, i, d] W W2 := ((Grow.s g1).trans m2).mono (by simp)
  refine jm2 (a := (n : Int) + 1) (b := t) rfl r2 (by decide +kernel) (ev_op (ev_jnum c rfl r2 (by simp [pur])) ev_int ro_I0) (ev_var rfl e) fun v u W3 g3 ev eu r3 => ⟨CL, W3, x, p, d, names, n, _, (n : Int) + 1, t, rfl, by rw [show v = _ from ev, show u = _ from eu], r3, hl, fun W4 g4 r4 => ?_⟩
  refine s_ret (ε := pur) (K := K) (x := t) (ev_var rfl e) trivial fun v W5 g5 rv => ?_
  rw [show v = _ from rv]
  exact k W5 p (((M2.trans (Grow.s g3)).trans (g4.mono (by simp))).trans (Grow.s g5.pure)) (r4.gr g5.pure) (.inr fp)
theorem New.md {W W1 W2 : Wd} {i i' : Addr} {S : List Addr} (n : New W i i') (hi : i ∈ S) (g : Md S W W1) (h : Md (i' :: S) W1 W2) : Md S W W2 := by
  rcases n with rfl | n
  · exact g.trans (h.mono fun a ha => by
      rcases List.mem_cons.mp ha with rfl | ha
      · exact hi
      · exact ha)
  · exact Md.fresh g h n
theorem New.trans {W W1 : Wd} {i i' i'' : Addr} {S : List Addr} (n : New W i i') (g : Md S W W1) (m : New W1 i' i'') : New W i i'' := by
  rcases m with rfl | m
  · exact n
  · exact .inr (was_none g m)
theorem fits_b (n : Nat) (ins : Ins) (name : Str) : (decide (name ∈ ins.map (·.1)) || decide ((ins.length : Int) < (n : Int))) = decide (Fits n ins name) := by
  rw [← Bool.decide_or]
  exact decide_eq_decide.mpr ⟨fun h => h.imp id fun h => by omega, fun h => h.imp id fun h => by omega⟩
theorem rd_Jars_put_in (c : JarsC K CJ) (h : sp_Jars_put_in K CJ vs H Q E) : t_Jars_put_in K CJ { nx := fun _ H' => Q .non H', rt := Q } (start n_Jars_put_in vs) H := by
  obtain ⟨CL, W, x, i, d, names, n, b, s, name, t, rfl, rfl, r, ok, hn, k⟩ := h
  have eI : ∀ {i : Int} {W : Wd}, rep K W.B (V.int i) i := rfl
  have eS : ∀ {i : Str} {W : Wd}, rep K W.B (V.str i) i := rfl
  refine q_asg (ε := pur) (K := K) (x := (t : Int)) (ev_var rfl eI) trivial fun v W0 g0' rv => ?_
  have g0 := g0'.pure
  rw [show v = _ from rv]
  refine s_while (ε := pur) (fun m σ' W' => ∃ (i' : Addr) (s' : Ins × Lots) (left : Nat) (b' : Int), σ' = [some (.ref x), some (.str name), some (.int t), some (.int left)] ∧ m = left ∧ Md [x, i, d] W W' ∧ JarAt K CL CJ W' x i' d names n s' ∧ JOk names n b' s' ∧ New W i i' ∧ Nat.repeat (one n name) left s' = Nat.repeat (one n name) t s)
    t ⟨i, s, t, b, rfl, rfl, Grow.s g0, r.gr g0, ok, .inl rfl, rfl⟩ ?_
  rintro left σ' W' ⟨i', s', _, b', rfl, rfl, M, r', ok', nw, eq⟩
  refine ⟨trivial, decide ((left : Int) > 0), et_test (ev_op (ev_var rfl eI) ev_int ro_B0), fun hb W1 g1' => ?_, fun hb W1 g1' => ?_⟩
  · have hpos : 0 < left := by have := of_decide_eq_true hb; omega
    have g1 := g1'.pure
    have M1 := M.trans (Grow.s g1)
    have r1 := r'.gr g1
    refine s_if (ε := pur) (b := decide (Fits n s'.1 name)) ((et_or (et_B (ev_dinE (ev_jins c rfl r1 (by simp [pur])) r1.mi.pur (ek_str (ev_var rfl eS)))) fun _ => et_test (ev_op (ev_lenDE (ev_jins c rfl r1 (by simp [pur])) r1.mi.pur) (ev_jnum c rfl r1 (by simp [pur])) ro_B0)).is (fits_b n s'.1 name)) trivial (fun hf W2 g2' => ?_) (fun hf W2 g2' => ?_)
    · have hf := of_decide_eq_true hf
      have g2 := g2'.pure
      have r2 := r1.gr g2
      have il := ok'.i.len
      have n8 := ok'.n8
      refine q_dputE (ev_jins c rfl r2 (by simp [pur])) r2.mi (ev_op (ev_dget2E (ev_jins c rfl r2 (by simp [pur])) r2.mi.pur (ek_str (ev_var rfl eS)) ev_int) (ev_var rfl eI) ro_I0) (ek_str (ev_var rfl eS)) (by omega) fun W3 g3 o3 m3 => ?_
      have r3 := r2.ins g3 m3
      have e3 := turn_fit (lost := s'.2) hf hpos
      refine s_asg (ε := pur) (K := K) (x := (0 : Int)) ev_int trivial fun v W4 g4 rv => ?_
      rw [show v = _ from rv]
      refine ⟨0, W4, hpos, rfl, i', _, 0, b' + left, rfl, rfl, (nw.md (by simp) (M1.trans (Grow.s g2)) (g3.mono (by simp))).trans (Grow.s g4.pure), r3.gr g4.pure, ?_, nw, ?_⟩
      · have := many_jok ok' hn left
        rw [show s' = (s'.1, s'.2) from rfl, e3] at this
        exact this
      · rw [← eq, show s' = (s'.1, s'.2) from rfl, e3]; rfl
    · have hf : ¬ Fits n s'.1 name := of_decide_eq_false hf
      have g2 := g2'.pure
      have r2 := r1.gr g2
      have ne : s'.1 ≠ [] := fun z => hf (.inr (by rw [z]; exact ok'.i.n1))
      obtain ⟨q, hq, eq'⟩ := least_mem s'.1 ne
      have lp := ok'.i.least_pos
      have ll := ok'.l.len
      obtain ⟨mm, hm⟩ : ∃ mm : Nat, (if least s'.1 < (left : Int) then least s'.1 else (left : Int)) = mm := ⟨(if least s'.1 < (left : Int) then least s'.1 else (left : Int)).toNat, by split <;> omega⟩
      have hm1 : 1 ≤ mm ∧ (mm : Int) ≤ least s'.1 ∧ mm ≤ left := by
        split at hm <;> omega
      refine ⟨_, rfl, jm1 (a := (if least s'.1 < (left : Int) then least s'.1 else (left : Int))) rfl r2 (by decide +kernel) (ev_cb2 (ev_var rfl eI) (ev_minVE (ev_jins c rfl r2 (by simp [pur])) r2.mi.pur (List.mem_map.mpr ⟨q, hq, eq'⟩) fun y hy => ?_) rc_min2) fun v W3 g3 rv r3 => ?_⟩
      · obtain ⟨p, hp, rfl⟩ := List.mem_map.mp hy
        exact least_le _ p hp
      rw [hm] at rv
      refine ⟨CL, W3, x, i', d, names, n, s', mm, rfl, by rw [show v = _ from rv], r3, ok'.i, ok'.n8, by omega, fun W4 i'' g4 r4 nw4 => ⟨left, mm, rfl, rfl, ?_⟩⟩
      have M3 := (M1.trans (Grow.s g2)).trans (Grow.s g3)
      have e4 := turn_off (lost := s'.2) (left := left) ok'.i hf hm1.1 hm1.2.1 hm1.2.2
      have e5 := one_many (lost := s'.2) ok'.i hf mm hm1.1 hm1.2.1
      have cast : (left : Int) - (mm : Int) = ((left - mm : Nat) : Int) := by omega
      refine ⟨left - mm, W4, by omega, rfl, i'', _, left - mm, b' + mm, by rw [← cast]; rfl, rfl, nw.md (by simp) M3 (g4.mono (by simp)), r4, ?_, nw.trans M3 nw4, ?_⟩
      · have := many_jok ok' hn mm
        rw [show s' = (s'.1, s'.2) from rfl, e5] at this
        exact this
      · rw [← eq, show Nat.repeat (one n name) left s' = Nat.repeat (one n name) left (s'.1, s'.2) from rfl, e4]
  · have h0 : left = 0 := by have := of_decide_eq_false hb; omega
    subst h0
    have e' : s' = Nat.repeat (one n name) t s := eq
    rw [e'] at r'
    exact k W1 i' (M.trans (Grow.s g1'.pure)) (r'.gr g1'.pure) nw
/-- the letters' rank of a thing, either way -/
theorem s_rank {W : Wd} {σ : SS} {x i d : Addr} {names : List Str} {n : Nat} {s : Ins × Lots} {u : V} {j l : Nat} {tz : TS} {D : Ends} {b : Bool} (c : JarsC K CJ) (h0 : σ[j]? = some (some (.ref x))) (h1 : σ[l]? = some (some u)) (r : JarAt K CL CJ W x i d names n s) (hk : LetK K u b W)
    (h : (∃ name, u = .str name ∧ name ∈ names ∧ ∀ W', Grow W W' → tz D σ W'.H) ∨ (hasB names u = false ∧ ∀ W' dd, Grow W W' → W'.H dd = some (.xd [("name", u)]) → E (.ref (cErr K "NoLetter")) (some dd) W'.H)) :
    tSeq (tDrop (tMeth CL "rank" (sp_Letters_rank K CL) [] E (tFld K (tVar j) "own_letters") (tCons (tVar l) tNil))) tz D σ W.H := by
  have e0 : EvP pur (tFld K (tVar j) "own_letters") σ W (LetAt K CL names) := ep_jlet c h0 r (by simp [pur])
  unfold tSeq tDrop tMeth
  refine e0 W (.start trivial) _ fun v W2 g2 hl => ?_
  obtain ⟨l', dl, rr, e, z1, z2, z3⟩ := id hl
  refine ⟨l', dl, _, e, W2.sub.ins z1, by rw [lookup_putF, if_neg (by decide +kernel)]; all_goals rfl, _, h1, W2, v, u, names, b, rfl, rfl, hl, hk.gr g2.pure, ?_⟩
  rcases h with ⟨name, rfl, hn, k⟩ | ⟨hno, k⟩
  · exact .inl ⟨name, rfl, hn, fun i W' g _ => k W' (g2.pure.trans g)⟩
  · exact .inr ⟨hno, fun W' dd g => k W' dd (g2.pure.trans g)⟩
theorem rd_Jars_feed (cl : LettersC K CL) (c : JarsC K CJ) (h : sp_Jars_feed K CL CJ vs H Q E) : t_Jars_feed K CL CJ E { nx := fun _ H' => Q .non H', rt := Q } (start n_Jars_feed vs) H := by
  obtain ⟨W, x, i, d, names, n, s, u, z, rfl, rfl, r, h⟩ := h
  have eI : ∀ {i : Int} {W : Wd}, rep K W.B (V.int i) i := rfl
  have eS : ∀ {i : Str} {W : Wd}, rep K W.B (V.str i) i := rfl
  rcases h with ⟨b, name, t, rfl, rfl, ok, hn, h1, h2, k⟩ | ⟨b, hk, hno, k⟩ | ⟨name, o, rfl, hn, ro, bad, k⟩
  · refine s_rank c (j := 0) (l := 1) rfl rfl r (letk_word (r.al.ok name hn)) (.inl ⟨name, rfl, hn, fun W1 g1 => ?_⟩)
    refine q_when (ε := pur) (b := false) ((et_or (a := false) ((et_not (et_B (ev_isWhole (ev_var rfl eI)))).is rfl) fun _ => et_not (et_test (ev_chain ev_int (ev_var rfl eI) ev_int ro_B0 ro_B0))).is (by
      simp only [Bool.false_or, Bool.not_eq_false', Bool.and_eq_true, decide_eq_true_eq]; omega)) trivial (fun z => by cases z) fun _ W2 g2 => ?_
    have g := g1.trans g2.pure
    refine jm2 (a := name) (b := (t : Int)) rfl (r.gr g) (by decide +kernel) (ev_var rfl eS) (ev_var rfl eI) fun v u W3 g3 ev eu r3 => ⟨CL, W3, x, i, d, names, n, b, s, name, t, rfl, by rw [show v = _ from ev, show u = _ from eu], r3, ok, hn, fun W4 i' g4 r4 nw => ?_⟩
    exact k W4 i' (((Grow.s g).trans (Grow.s g3)).trans g4) r4 (nw.imp id fun f => was_none (g.trans g3) f)
  · exact s_rank c (j := 0) (l := 1) rfl rfl r hk (.inr ⟨hno, k⟩)
  · refine s_rank c (j := 0) (l := 1) rfl rfl r (letk_word (r.al.ok name hn)) (.inl ⟨name, rfl, hn, fun W1 g1 => ?_⟩)
    have ro1 := rep_g g1 ro
    cases hw : (o.isI && !o.isB) with
    | false => exact q_when (ε := pur) (b := true) ((et_or (a := true) (b := false) ((et_not (et_B (ev_isWholeO (ev_var (i := 2) rfl ro1)))).is (by rw [hw]; rfl)) fun z => by cases z).is rfl) trivial (fun _ W2 g2 => k W2 (g1.trans g2.pure)) (fun z => by cases z)
    | true =>
      cases o with
      | int a =>
        have r : z = V.int a := ro
        subst r
        have nb : (decide (1 ≤ a) && decide (a ≤ 1000000000)) = false := by
          have := bad a rfl
          simpa using this
        exact q_when (ε := pur) (b := true) ((et_or (a := false) ((et_not (et_B (ev_isWhole (ev_var rfl eI)))).is rfl) fun _ => et_not (et_test (ev_chain ev_int (ev_var rfl eI) ev_int ro_B0 ro_B0))).is (by rw [nb]; rfl)) trivial (fun _ W2 g2 => k W2 (g1.trans g2.pure)) (fun z => by cases z)
      | bl _ => cases hw
      | non => cases hw
      | str _ => cases hw
      | tup _ => cases hw
      | lst _ => cases hw
      | dct => cases hw
end
end B
/-! B: repr of data, sorted(d.items()), != of letters, over worlds -/
namespace B
open PySem L2
open PySem.W (Tup T3 T4 Datum DatumOrd)
open Evl (Ex)
/-- what can be shown, in so many signs -/
structure ShowOk (b : Nat) (d : PyData) : Prop where
  sh : d.showable = true
  nd : d.hasDict = false
  ln : d.shown.length ≤ b
theorem ShowOk.up {b c : Nat} {d : PyData} (h : ShowOk b d) (hc : b ≤ c) : ShowOk c d := ⟨h.sh, h.nd, Nat.le_trans h.ln hc⟩
theorem show_int {i : Int} (h : i.natAbs.log2 < 1920) : ShowOk 1921 (.int i) := ⟨by simp [PyData.showable, h], by simp [PyData.hasDict], by
  simp only [PyData.shown]; exact PyProof.Rows.int_text_len_1921 h⟩
theorem show_none : ShowOk 1921 .none := ⟨by simp [PyData.showable], by simp [PyData.hasDict], by
  simp only [PyData.shown]
  have : (("None" : Str)).length = 4 := by decide +kernel
  omega⟩
theorem show_str {s : Str} (h : ∀ c ∈ s.cps.toList, c < 16 ^ 8) : ShowOk (10 * s.length + 2) (.str s) := ⟨by simp [PyData.showable], by simp [PyData.hasDict], by
  simp only [PyData.shown]; exact PySem.StrLaws.reprText_len s h⟩
theorem show_word {s : Str} (h : IsWord s) : ShowOk 1921 (.str s) := (show_str fun c hc => by
  have := h.ok c hc
  have : (122 : Nat) < 16 ^ 8 := by decide
  omega).up (by have := h.hi; omega)
theorem show_pair {b : Nat} {x y : PyData} (hx : ShowOk b x) (hy : ShowOk b y) : ShowOk (2 * b + 7) (.tuple [x, y]) := ⟨by simp [PyData.showable, PyData.showableAll, hx.sh, hy.sh], by simp [PyData.hasDict, PyData.hasDictAll, hx.nd, hy.nd], by
  simp only [PyData.shown, PyData.shownAll]
  have := tupleText_len_le [x.shown, y.shown]
  have h1 := hx.ln
  have h2 := hy.ln
  simp only [List.map_cons, List.map_nil, List.sum_cons, List.sum_nil, List.length_cons, List.length_nil] at this
  omega⟩
theorem show_all {b : Nat} : ∀ ds : List PyData, (∀ d ∈ ds, ShowOk b d) → PyData.showableAll ds = true ∧ PyData.hasDictAll ds = false ∧ ((PyData.shownAll ds).map (·.length)).sum ≤ ds.length * b ∧ (PyData.shownAll ds).length = ds.length
  | [], _ => ⟨by simp [PyData.showableAll], by simp [PyData.hasDictAll], by simp [PyData.shownAll], by simp [PyData.shownAll]⟩
  | d :: ds, h => by
    have h1 := h d List.mem_cons_self
    obtain ⟨a1, a2, a3, a4⟩ := show_all ds fun e he => h e (List.mem_cons_of_mem _ he)
    refine ⟨by simp [PyData.showableAll, h1.sh, a1], by simp [PyData.hasDictAll, h1.nd, a2], ?_, by simp [PyData.shownAll, a4]⟩
    simp only [PyData.shownAll, List.map_cons, List.sum_cons, List.length_cons]
    have := h1.ln
    have : (ds.length + 1) * b = ds.length * b + b := by rw [Nat.add_mul, Nat.one_mul]
    omega
def shL (ds : List PyData) : Str := listText (PyData.shownAll ds)
theorem shL_len {b : Nat} {ds : List PyData} (h : ∀ d ∈ ds, ShowOk b d) : (shL ds).length ≤ ds.length * b + 2 * ds.length + 3 := by
  obtain ⟨_, _, a3, a4⟩ := show_all ds h
  have := listText_len_le (PyData.shownAll ds)
  unfold shL
  rw [a4] at this
  omega
section
variable {K : Fg} {W : Wd} {σ : SS} {ε : Ef} {te : TE} {b : Nat}
/-- repr(list) -/
theorem ev_reprP {ds : List PyData} (h : EvP ε te σ W (fun v W' => Dp K W'.H v (.list ds))) (hs : ∀ d ∈ ds, ShowOk b d) (hd : PyData.depthAll ds ≤ 40) (hl : ds.length * b + 2 * ds.length + 3 ≤ 100000) : EvR ε K (tCB (rRepr K) (tCons te tNil)) σ W (shL ds) := fun W1 g1 Q k => h W1 g1 _ fun v W2 g2 dp => by
  obtain ⟨a1, a2, _, _⟩ := show_all ds hs
  exact ⟨v, ds, rfl, dp, a1, a2, hd, Nat.le_trans (shL_len hs) (Evl.sz_of hl), k _ W2 g2 rfl⟩
theorem ev_repr {α : Type} [DecidableEq α] [Datum α] [Py α] [PyD α] {xs : List α} (h : EvR ε K te σ W xs) (hs : ∀ x ∈ xs, ShowOk b (Datum.toD x)) (hd : Datum.depth α ≤ 40) (hl : xs.length * b + 2 * xs.length + 3 ≤ 100000) : EvR ε K (tCB (rRepr K) (tCons te tNil)) σ W (shL (xs.map Datum.toD)) :=
  ev_reprP (b := b) (fun W1 g1 Q k => h W1 g1 Q fun v W2 g2 r => k v W2 g2 (PyD.dp (rep_h r))) (fun d hd => by
    obtain ⟨x, hx, rfl⟩ := List.mem_map.mp hd
    exact hs x hx) (Nat.le_trans (PySem.W.depthAll_map xs) hd) (by rw [List.length_map]; exact hl)
/-- a new list of new pairs -/
theorem new_pairs {κ : Type} [PyKV κ] {W2 : Wd} {H' : Hp} {p : Addr} {ts : List Addr} {ys : List (κ × Int)} (hx : ∀ b o, W2.H b = some o → H' b = some o) (hp : W2.H p = none) (hts : ∀ t ∈ ts, W2.H t = none) (hpt : p ∉ ts) (hl : H' p = some (.lst (ts.map V.ref)))
    (hpr : Paired (fun (t : Addr) (q : κ × Int) => H' t = some (.tup [kV (PyKey.key q.1), .int q.2])) ts ys) : ∃ W3 : Wd, W3.H = H' ∧ Grow W2 W3 ∧ rep K W3.B (.ref p) ys := by
  let B' : Hp := fun b => match W2.B b with
    | some o => some o
    | none => if b = p ∨ b ∈ ts then H' b else none
  have old : ∀ b o, W2.B b = some o → B' b = some o := fun b o q => by show (match W2.B b with | some o => some o | none => _) = some o; rw [q]
  have nw : ∀ b, W2.B b = none → B' b = (if b = p ∨ b ∈ ts then H' b else none) := fun b q => by
    show (match W2.B b with | some o => some o | none => _) = _
    rw [q]
  have sub : Ext B' H' := fun b o q => by
    cases e : W2.B b with
    | some u =>
      rw [old b u e] at q
      cases q
      rcases W2.sub b o e with h1 | ⟨h0, ob, h1⟩
      · exact .inl (hx b o h1)
      · exact .inr ⟨h0, ob, hx b _ h1⟩
    | none =>
      rw [nw b e] at q
      split at q
      · exact .inl q
      · cases q
  have at_ : ∀ b, W2.H b = none → (b = p ∨ b ∈ ts) → B' b = H' b := fun b n c => by rw [nw b (W2.free n), if_pos c]
  refine ⟨⟨B', H', sub⟩, rfl, .mk old hx fun b hb => ?_, p, ts.map V.ref, rfl, (at_ p hp (.inl rfl)).trans hl, ?_⟩
  · show B' b = W2.B b
    cases e : W2.B b with
    | some u => exact old b u e
    | none =>
      rw [nw b e, if_neg]
      rintro (rfl | c)
      · exact hb.ne hp
      · exact hb.ne (hts b c)
  · have go : ∀ {us : List Addr} {zs : List (κ × Int)}, (∀ t ∈ us, t ∈ ts) → Paired (fun (t : Addr) (q : κ × Int) => H' t = some (.tup [kV (PyKey.key q.1), .int q.2])) us zs → Reps K B' (us.map V.ref) zs := by
      intro us zs hu h
      induction h with
      | nil => exact .nil
      | @cons t q us zs a r ih =>
        have ht := hu t List.mem_cons_self
        exact .cons ⟨t, _, _, rfl, (at_ t (hts t ht) (.inr ht)).trans a, PyKV.krep _ _ _, rfl⟩ (ih fun u hu' => hu u (List.mem_cons_of_mem _ hu'))
    exact go (fun _ h => h) hpr
theorem perm_back {α β : Type} {f : α → β} (inj : ∀ a b, f a = f b → a = b) : ∀ {xs ys : List α}, (xs.map f).Perm (ys.map f) → xs.Perm ys
  | [], ys, h => by
    have := h.length_eq
    simp at this
    rw [List.eq_nil_of_length_eq_zero this.symm]
  | x :: xs, ys, h => by
    obtain ⟨y, hy, e⟩ := List.mem_map.mp (h.mem_iff.mp (List.mem_map.mpr ⟨x, List.mem_cons_self, rfl⟩))
    rw [inj y x e] at hy
    obtain ⟨s, t, rfl⟩ := List.append_of_mem hy
    have h1 : ((s ++ x :: t).map f).Perm (f x :: (s ++ t).map f) := by
      rw [List.map_append, List.map_cons, List.map_append]
      exact List.perm_middle
    have h2 : (xs.map f).Perm ((s ++ t).map f) := List.Perm.cons_inv (h.trans h1)
    exact ((perm_back inj h2).cons x).trans List.perm_middle.symm
theorem keyed_back {κ : Type} [PyKey κ] {kv : List (κ × Int)} {ys : List (Key × Int)} (h : ys.Perm (kv.map fun q => ((PyKey.key q.1 : Key), q.2))) : ∃ zs : List (κ × Int), zs.Perm kv ∧ ys = zs.map fun q => ((PyKey.key q.1 : Key), q.2) := by
  have : ∀ ys : List (Key × Int), (∀ y ∈ ys, ∃ q : κ × Int, y = ((PyKey.key q.1 : Key), q.2)) → ∃ zs : List (κ × Int), ys = zs.map fun q => ((PyKey.key q.1 : Key), q.2) := fun ys => by
    induction ys with
    | nil => exact fun _ => ⟨[], rfl⟩
    | cons y ys ih =>
      intro h
      obtain ⟨q, e⟩ := h y List.mem_cons_self
      obtain ⟨zs, e'⟩ := ih fun z hz => h z (List.mem_cons_of_mem _ hz)
      exact ⟨q :: zs, by rw [e, e']; rfl⟩
  obtain ⟨zs, e⟩ := this ys fun y hy => by
    obtain ⟨q, _, e⟩ := List.mem_map.mp (h.mem_iff.mp hy)
    exact ⟨q, e.symm⟩
  subst e
  refine ⟨zs, ?_, rfl⟩
  have inj : ∀ a b : κ × Int, (fun q : κ × Int => ((PyKey.key q.1 : Key), q.2)) a = (fun q : κ × Int => ((PyKey.key q.1 : Key), q.2)) b → a = b := fun a b e => Prod.ext (PyKey.inj (Prod.mk.inj e).1) (Prod.mk.inj e).2
  exact perm_back inj h
theorem kreps_pairs {κ : Type} [PyKey κ] {H : Hp} {ks : List (Key × V)} {kv : List (κ × Int)} (r : KReps K H ks kv) : ks = (kv.map fun q => ((PyKey.key q.1 : Key), q.2)).map fun q => (q.1, V.int q.2) := by
  induction r with
  | nil => rfl
  | @cons p q _ _ a b ih =>
    rw [List.map_cons, List.map_cons, ← ih]
    congr 1
    exact Prod.ext a.1 a.2
/-- sorted(d.items()) -/
theorem ev_sortItems {κ : Type} [DecidableEq κ] [PyKV κ] {d : Addr} {kv ys : List (κ × Int)} (hd : EvR ε K te σ W (Raw.mk (.ref d))) (m : DStay ε K W d kv) (hk : OneKind (kv.map fun q => ((PyKey.key q.1 : Key), q.2))) (hl : kv.length ≤ 4000)
    (hu : ∀ zs : List (κ × Int), zs.Perm kv → zs.Pairwise (fun a b => kle (PyKey.key a.1) (PyKey.key b.1) = true) → zs = ys) : EvR ε K (tSortItems te) σ W ys := fun W1 g1 Q k => hd W1 g1 _ fun v W2 g2 e => by
  obtain ⟨ks, e3, r⟩ := m _ (g1.trans g2)
  refine ⟨d, kv.map fun q => ((PyKey.key q.1 : Key), q.2), e, by rw [← kreps_pairs r]; exact e3, hk, by rw [List.length_map]; exact hl, fun ys' H' p ts h1 h2 hx hp hts hpt hl' hpr => ?_⟩
  obtain ⟨zs, hz, rfl⟩ := keyed_back h1
  have ez := hu zs hz (by rw [List.pairwise_map] at h2; exact h2)
  subst ez
  have pr : Paired (fun (t : Addr) (q : κ × Int) => H' t = some (.tup [kV (PyKey.key q.1), .int q.2])) ts zs := by
    clear hl' hpt hts h1 h2 hz hu k
    revert ts
    induction zs with
    | nil => intro ts h; cases h; exact .nil
    | cons z zs ih => intro ts h; cases h with | cons a b => exact .cons a (ih _ b)
  obtain ⟨W3, rfl, g3, r3⟩ := new_pairs hx hp hts hpt hl' pr
  exact k _ W3 (g2.and g3) r3
theorem ev_sortItemsS {d : Addr} {kv : Ins} (hd : EvR ε K te σ W (Raw.mk (.ref d))) (m : DStay ε K W d kv) (n : (kv.map (·.1)).Nodup) (hl : kv.length ≤ 4000) : EvR ε K (tSortItems te) σ W (srt kv) :=
  ev_sortItems hd m (.inl fun q hq => by obtain ⟨z, _, rfl⟩ := List.mem_map.mp hq; exact ⟨z.1, rfl⟩) hl fun zs h o => srt_uniq n h o
theorem ev_sortItemsI {d : Addr} {kv : Lots} (hd : EvR ε K te σ W (Raw.mk (.ref d))) (m : DStay ε K W d kv) (n : (kv.map (·.1)).Nodup) (hl : kv.length ≤ 4000) : EvR ε K (tSortItems te) σ W (srtI kv) :=
  ev_sortItems hd m (.inr fun q hq => by obtain ⟨z, _, rfl⟩ := List.mem_map.mp hq; exact ⟨z.1, rfl⟩) hl fun zs h o => srtI_uniq n h (o.imp fun h => of_decide_eq_true h)
/-- a != b, letters both -/
theorem ev_letNe {CL : Addr} {ta tb : TE} {n1 n2 : List Str} (ha : EvP pur ta σ W (LetAt K CL n1)) (hb : EvP pur tb σ W (LetAt K CL n2)) : EvR pur K (tOp (rInsNe CL (sp_Letters___eq__ K CL) E0) ta tb) σ W (!decide (n1 = n2)) := fun W1 g1 Q k => ha W1 g1 _ fun v W2 g2 h1 => hb W2 (g1.trans g2) _ fun u W3 g3 h2 => by
  have h1 := h1.s g3
  obtain ⟨l, dl, r, e, z1, z2, z3⟩ := id h1
  obtain ⟨l', dl', r', e', z1', z2', z3'⟩ := id h2
  exact ⟨l, l', dl, dl', _, _, e, e', W3.sub.ins z1, W3.sub.ins z1', W3, v, u, n1, n2, rfl, rfl, h1, h2, fun W4 g4 => ⟨_, rfl, k _ W4 ((g2.trans g3).and g4) rfl⟩⟩
end
end B
/-! the laws' drawn letters -/
namespace B
open PySem L2
open PySem.W (Tup T3 T4 Datum DatumOrd)
open Evl (Ex)
abbrev tSplit (K : Fg) (to te : TE) : TE := tM1 (fun x xs H Q => ∃ a b, x = .str a ∧ xs = [.str b] ∧ (b.length == 0) = false ∧ a.length + 2 ≤ sizeLine ∧ rNewStrs (Txt.split a b) H Q) to te
abbrev tJoin (K : Fg) (to te : TE) : TE := tM1 (fun x xs H Q => ∃ a p, ∃ ys : List Str, x = .str a ∧ xs = [.ref p] ∧ (SqL K H p (ys.map V.str) ∨ SqT K H p (ys.map V.str)) ∧ (ys.map (·.length)).sum + ys.length * a.length ≤ 16777216 ∧ Q (.str (Txt.join a ys)) H) to te
def IsSign (s : Str) : Prop := ∃ c, 97 ≤ c ∧ c ≤ 122 ∧ s = ⟨#[c]⟩
theorem joinL_nil : ∀ ps : List (List Nat), TL.joinL [] ps = ps.flatten
  | [] => rfl
  | [p] => by simp [TL.joinL]
  | p :: q :: r => by
    show p ++ ([] ++ TL.joinL [] (q :: r)) = _
    rw [joinL_nil (q :: r)]; simp
theorem signs_cps : ∀ ys : List Str, (∀ y ∈ ys, IsSign y) → ∃ cs : List Nat, cs.length = ys.length ∧ (∀ c ∈ cs, 97 ≤ c ∧ c ≤ 122) ∧ (ys.map fun y => y.cps.toList).flatten = cs
  | [], _ => ⟨[], rfl, fun _ h => (by simp at h), rfl⟩
  | y :: ys, h => by
    obtain ⟨c, h1, h2, rfl⟩ := h y List.mem_cons_self
    obtain ⟨cs, e1, e2, e3⟩ := signs_cps ys fun z hz => h z (List.mem_cons_of_mem _ hz)
    refine ⟨c :: cs, by simp [e1], fun d hd => ?_, by simp [← e3]⟩
    rcases List.mem_cons.mp hd with rfl | hd
    · exact ⟨h1, h2⟩
    · exact e2 d hd
theorem word_of {ys : List Str} (h : ∀ y ∈ ys, IsSign y) (h1 : 1 ≤ ys.length) (h2 : ys.length ≤ 6) : IsWord (Txt.join "" ys) := by
  obtain ⟨cs, e1, e2, e3⟩ := signs_cps ys h
  have e : (Txt.join "" ys).cps.toList = cs := by
    rw [TL.join_eq]
    have := TL.tl_join "" ys
    rw [show TL.tl "" = [] from rfl, joinL_nil] at this
    exact this.trans e3
  have l : (Txt.join "" ys).length = ys.length := by
    show (Txt.join "" ys).cps.size = _
    rw [← Array.length_toList, e, e1]
  exact ⟨by omega, by omega, fun c hc => e2 c (by rw [← e]; exact hc)⟩
theorem signs_sum : ∀ ys : List Str, (∀ y ∈ ys, IsSign y) → (ys.map (·.length)).sum = ys.length
  | [], _ => rfl
  | y :: ys, h => by
    obtain ⟨c, _, _, rfl⟩ := h y List.mem_cons_self
    rw [List.map_cons, List.sum_cons, signs_sum ys fun z hz => h z (List.mem_cons_of_mem _ hz), List.length_cons]
    show 1 + _ = _
    omega
def spare17 : List Str := ["a", "b", "aa", "ab", "ba", "abc", "zzzzzz", "aaaaaa", "bob", "ann", "cy", "z", "y", "az", "za", "q"]
theorem spare_eq : Txt.split "a b aa ab ba abc zzzzzz aaaaaa bob ann cy z y az za q" " " = spare17 := by decide +kernel
theorem spare_words : ∀ s ∈ spare17, IsWord s := by
  intro s hs
  have h : ∀ s ∈ spare17, 1 ≤ s.length ∧ s.length ≤ 6 ∧ ∀ c ∈ s.cps.toList, 97 ≤ c ∧ c ≤ 122 := by decide +kernel
  exact ⟨(h s hs).1, (h s hs).2.1, (h s hs).2.2⟩
theorem spare_nodup : spare17.Nodup := by decide +kernel
def sp__law_alphabet (K : Fg) : Sp := fun vs H Q _ => ∃ (W : Wd) (p c : Addr) (lo hi : Int), W.H = H ∧ vs = [.ref p, .int lo, .int hi] ∧ St W p c ∧ 1 ≤ lo ∧ lo ≤ hi ∧ hi ≤ 12 ∧
  ∀ v names W', Md [p, c] W W' → St W' p c → rep K W'.B v names → Alpha names → lo ≤ names.length → (names.length : Int) ≤ hi → Q v W'.H
theorem len__law_alphabet {K : Fg} {vs : List V} {H : Hp} {Q : VK} {E : XK} (h : sp__law_alphabet K vs H Q E) : vs.length = ["_law_state", "_law_low", "_law_high"].length := by
  obtain ⟨W, p, c, lo, hi, _, rfl, _⟩ := h
  rfl
/-- _law_alphabet: the slots 0 _law_state, 1 _law_low, 2 _law_high, 3 _law_spare, 4 _law_signs, 5 _law_found, 6 _law_k, 7 _law_name, 8 _law_word_here, 9 _law_spot -/
abbrev n__law_alphabet : List Str := ["_law_state", "_law_low", "_law_high", "_law_spare", "_law_signs", "_law_found", "_law_k", "_law_name", "_law_word_here", "_law_spot"]
def t__law_alphabet (K : Fg) : TS := (tSeq (tAsg (tSplit K (tC (.str "a b aa ab ba abc zzzzzz aaaaaa bob ann cy z y az za q")) (tC (.str " "))) (gName 3))
  (tSeq (tAsg (tC (.str "abcdefghijklmnopqrstuvwxyz")) (gName 4))
  (tSeq (tAsg (tLst tNil) (gName 5))
  (tSeq (tFor (iRng1 (tCons (tOp oAdd (tVar 1) (tCall (sp__law_draw K) [] E0 (tCons (tVar 0) (tCons (tOp oAdd (tOp oSub (tVar 2) (tVar 1)) (tC (.int 1))) tNil)))) tNil)) (gName 6)
  (tSeq (tAsg (tBM K "list" rPopAt (tVar 3) (tCons (tCall (sp__law_draw K) [] E0 (tCons (tVar 0) (tCons (tCB (rLen K) (tCons (tVar 3) tNil)) tNil))) tNil)) (gName 7))
  (tSeq (tIfS (tTest (tOp rEq (tCall (sp__law_draw K) [] E0 (tCons (tVar 0) (tCons (tC (.int 4)) tNil))) (tC (.int 0)))) (tSeq (tAsg (tJoin K (tC (.str "")) (tLc (iRng1 (tCons (tOp oAdd (tC (.int 1)) (tCall (sp__law_draw K) [] E0 (tCons (tVar 0) (tCons (tC (.int 6)) tNil)))) tNil)) (gName 9) tYes (tOp rIxS (tVar 4) (tCall (sp__law_draw K) [] E0 (tCons (tVar 0) (tCons (tC (.int 26)) tNil)))) [9])) (gName 8))
  (tAsg (tIf (tTest (tOp (rInTL K true) (tVar 8) (tOp rCat (tVar 5) (tVar 3)))) (tVar 8) (tVar 7)) (gName 7))) tNext)
  (tDrop (tBM K "list" rAppend (tVar 5) (tCons (tVar 7) tNil))))))
  (tRet (tVar 5))))))
section
variable {K : Fg} {W : Wd} {σ : SS} {ε : Ef} {te : TE}
theorem en_split {a b : Str} (hb : (b.length == 0) = false) (ha : a.length + 2 ≤ 100000) : EvN ε K (tSplit K (tC (.str a)) (tC (.str b))) σ W (Txt.split a b) := fun W1 g1 Q k =>
  ⟨⟨a, rfl⟩, a, b, rfl, rfl, hb, Evl.sz_of ha, fun p hp => k p _ (W1.put p _ (W1.free hp)) (g1.rf.and (W1.grow_put hp)) hp (W1.free hp) upd_same (str_reps _)⟩
theorem ev_lenM {α : Type} [Py α] {d : Addr} {xs : List α} {i : Nat} (hd : σ[i]? = some (some (.ref d))) (m : LMut K W d xs) (hS : d ∉ ε.S) : EvR ε K (tCB (rLen K) (tCons (tVar i) tNil)) σ W (xs.length : Int) := fun W1 g1 Q k => by
  obtain ⟨vs, e, r⟩ := (m.g g1.md hS).ex
  exact ⟨_, hd, d, vs, rfl, .inl (SqL.of e), by rw [Reps.len r]; exact k _ W1 g1.rf rfl⟩
theorem seqIx {r : Int} {n : Nat} (h0 : 0 ≤ r) (h1 : r < n) : seqIndex? r n = some r.toNat := by
  have hn : ¬ r < 0 := by omega
  simp [seqIndex?, hn, h0, h1]
/-- ''.join of drawn signs -/
theorem ep_join (h : EvP ε te σ W (fun v W' => ∃ (ys : List Str), 1 ≤ ys.length ∧ ys.length ≤ 6 ∧ (∀ y ∈ ys, IsSign y) ∧ rep K W'.B v ys)) : EvP ε (tJoin K (tC (.str "")) te) σ W (fun v _ => ∃ w, v = .str w ∧ IsWord w) := fun W1 g1 Q k =>
  ⟨⟨_, rfl⟩, h W1 g1 _ fun v W2 g2 ⟨ys, h1, h2, h3, a, vs, e, s, r⟩ => ⟨"", a, ys, rfl, by rw [e], .inl (by rw [← reps_str r]; exact SqL.of (W2.sub.el s)), by
    rw [signs_sum ys h3]
    show ys.length + ys.length * 0 ≤ _
    omega, k _ W2 g2 ⟨_, rfl, word_of h3 h1 h2⟩⟩⟩
theorem erase_perm {α : Type} : ∀ (xs : List α) (k : Nat) (h : k < xs.length), (xs[k] :: xs.eraseIdx k).Perm xs
  | x :: xs, 0, _ => .refl _
  | x :: xs, k + 1, h => by
    have h' : k < xs.length := by simpa using h
    exact (List.Perm.swap x xs[k] (xs.eraseIdx k)).trans ((erase_perm xs k h').cons x)
theorem map_erase {α β : Type} (f : α → β) : ∀ (xs : List α) (k : Nat), (xs.map f).eraseIdx k = (xs.eraseIdx k).map f
  | [], k => by simp
  | x :: xs, 0 => rfl
  | x :: xs, k + 1 => by
    show f x :: (xs.map f).eraseIdx k = f x :: (xs.eraseIdx k).map f
    rw [map_erase f xs k]
theorem al_at : ∀ k, k < 26 → (("abcdefghijklmnopqrstuvwxyz" : Str)).cps.toList[k]? = some (97 + k) := by
  have : ∀ k ∈ List.range 26, (("abcdefghijklmnopqrstuvwxyz" : Str)).cps.toList[k]? = some (97 + k) := by decide +kernel
  exact fun k h => this k (List.mem_range.mpr h)
theorem pop_nodup {ys xs : List Str} {k : Nat} (n : (ys ++ xs).Nodup) (hk : k < xs.length) : (ys ++ [xs[k]] ++ xs.eraseIdx k).Nodup := by
  have hp : (ys ++ [xs[k]] ++ xs.eraseIdx k).Perm (ys ++ xs) := by
    rw [List.append_assoc]
    refine List.Perm.append_left ys ?_
    rw [List.singleton_append]
    exact erase_perm xs k hk
  exact hp.nodup_iff.mpr n
theorem rd__law_alphabet {vs : List V} {H : Hp} {Q : VK} {E : XK} (h : sp__law_alphabet K vs H Q E) : t__law_alphabet K { nx := fun _ H' => Q .non H', rt := Q } (start n__law_alphabet vs) H := by
  obtain ⟨W, p, c, lo, hi, rfl, rfl, st, h1, h2, h3, k⟩ := h
  show t__law_alphabet K _ [some (.ref p), some (.int lo), some (.int hi), none, none, none, none, none, none, none] W.H
  have eI : ∀ {i : Int} {W : Wd}, rep K W.B (V.int i) i := rfl
  have eS : ∀ {i : Str} {W : Wd}, rep K W.B (V.str i) i := rfl
  refine q_asgN (ε := pur) (en_split (by decide +kernel) (by decide +kernel)) trivial fun sa vs1 W1 g1' fs1 bs1 es1 rs1 => ?_
  rw [spare_eq] at rs1
  have g1 := g1'.pure
  refine q_asg (ε := pur) (K := K) (x := ("abcdefghijklmnopqrstuvwxyz" : Str)) ev_str trivial fun v2 W2 g2' rv2 => ?_
  rw [show v2 = _ from rv2]
  have g2 := g1.trans g2'.pure
  have ms2 : LMut K W2 sa spare17 := LMut.gr ⟨bs1, vs1, es1, rs1⟩ g2'.pure
  refine q_asgN (ε := pur) (K := K) (xs := ([] : List Str)) (en_lst ea_nil (by decide)) trivial fun fa vs3 W3 g3' ff3 bf3 ef3 rf3 => ?_
  have g3 := g2.trans g3'.pure
  have ms3 := ms2.gr g3'.pure
  have mf3 : LMut K W3 fa ([] : List Str) := ⟨bf3, vs3, ef3, rf3⟩
  have st3 := st.g g3
  have ffW : W.H fa = none := was_none g2 ff3
  have fa_sa : fa ≠ sa := fun z => by
    obtain ⟨o, e, _⟩ := ms2.nt
    rw [z, e] at ff3; cases ff3
  have hp := st.dom
  have sap : sa ≠ p := fun z => hp.1 (by rw [← z]; exact fs1)
  have sac : sa ≠ c := fun z => hp.2 (by rw [← z]; exact fs1)
  have fap : fa ≠ p := fun z => hp.1 (by rw [← z]; exact ffW)
  have fac : fa ≠ c := fun z => hp.2 (by rw [← z]; exact ffW)
  -- for k in range(low + draw)
  let al : Str := "abcdefghijklmnopqrstuvwxyz"
  refine ⟨_, rfl, (ev_draw (K := K) (σ := [some (.ref p), some (.int lo), some (.int hi), some (.ref sa), some (.str al), some (.ref fa), none, none, none, none]) (i := 0) (p := p) (c := c) (n := hi - lo + 1) rfl (ev_op (ev_op (ev_var (i := 2) rfl eI) (ev_var (i := 1) rfl eI) ro_I0) ev_int ro_I0) (by omega) (by omega)) W3 (.start st3) _ fun v4 W4 g4 ⟨r, e4, r0, r1⟩ => ?_⟩
  subst e4
  let Pv : Nat → SS → Wd → Prop := fun i σ' W' => ∃ (v6 v7 v8 v9 : Option V) (xs ys : List Str), σ' = [some (.ref p), some (.int lo), some (.int hi), some (.ref sa), some (.str al), some (.ref fa), v6, v7, v8, v9] ∧ On W4 W' ∧ Md [p, c] W W' ∧ St W' p c ∧ LMut K W' sa xs ∧ LMut K W' fa ys ∧ (ys ++ xs).Nodup ∧ (∀ w ∈ ys ++ xs, IsWord w) ∧ ys.length = i ∧ xs.length + i = 16
  refine ⟨lo, r, rfl, rfl, lo + r, rfl, by omega, by omega, for_rng (W2 := W4) Pv
    ⟨none, none, none, none, spare17, [], rfl, .refl _, (Grow.s g3).trans g4.md, g4.i, ms3.g g4.md (by simp [drw, sap, sac]), mf3.g g4.md (by simp [drw, fap, fac]), by simpa using spare_nodup, by simpa using spare_words, rfl, rfl⟩ (fun i σ' W' ⟨_, _, _, _, _, _, _, o, _⟩ => o) ?_ ?_⟩
  · rintro i σ' W5 hi' ⟨v6, v7, v8, v9, xs, ys, rfl, o5, M5, s5, ms5, mf5, nd, wd, yl, xl⟩
    have xpos : 0 < xs.length := by omega
    -- name = spare.pop(draw)
    obtain ⟨us, eus, rus⟩ := ms5.ex
    show tSeq _ _ _ [some (.ref p), some (.int lo), some (.int hi), some (.ref sa), some (.str al), some (.ref fa), some (.int i), v7, v8, v9] W5.H
    refine ⟨_, rfl, .inl ⟨rfl, us, SqL.of eus⟩, (ev_draw (K := K) (σ := [some (.ref p), some (.int lo), some (.int hi), some (.ref sa), some (.str al), some (.ref fa), some (.int i), v7, v8, v9]) (i := 0) (p := p) (c := c) (n := xs.length) rfl (ev_lenM (i := 3) rfl ms5 (by simp [drw, sap, sac])) (by omega) (by omega)) W5 (.start s5) _ fun v6 W6 g6 ⟨q, e6, q0, q1⟩ => ?_⟩
    subst e6
    have ms6 := ms5.g g6.md (by simp [drw, sap, sac])
    have mf6 := mf5.g g6.md (by simp [drw, fap, fac])
    obtain ⟨us, eus, rus⟩ := ms6.ex
    have ul := Reps.len rus
    obtain ⟨kk, rfl⟩ : ∃ kk : Nat, q = kk := ⟨q.toNat, by omega⟩
    have hk : kk < xs.length := by omega
    have hus : us = xs.map V.str := reps_str rus
    have hy : us[kk]? = some (.str xs[kk]) := by rw [hus]; simp [hk]
    refine ⟨sa, us, kk, kk, .str xs[kk], rfl, rfl, eus, by omega, by omega, by rw [seqIx q0 (by omega)]; simp, hy, ?_⟩
    let W7 := W6.put sa (.lst (us.eraseIdx kk)) ms6.b
    have M7 : Md [p, c] W W7 := Md.fresh (M5.trans g6.md) ((md_put ms6.b).mono (by simp)) fs1
    have ms7 : LMut K W7 sa (xs.eraseIdx kk) := ⟨ms6.b, _, upd_same, by rw [hus, map_erase]; exact str_reps _⟩
    have mf7 : LMut K W7 fa ys := mf6.g (md_put ms6.b) (by simpa using fa_sa)
    have s7 : St W7 p c := (show St W6 p c from g6.i).off (md_put ms6.b) (by simp [sap.symm]) (by simp [sac.symm])
    have o7 : On W4 W7 := (o5.trans g6.on).trans (md_put ms6.b).on
    have nd7 := pop_nodup nd hk
    have w7 : IsWord xs[kk] := wd _ (List.mem_append_right _ (List.getElem_mem hk))
    have el : (xs.eraseIdx kk).length + 1 = xs.length := by rw [List.length_eraseIdx]; rw [if_pos hk]; omega
    have wx : ∀ w ∈ xs.eraseIdx kk, IsWord w := fun w hw => wd w (List.mem_append_right _ (List.mem_of_mem_eraseIdx hw))
    -- found.append(name)
    have fin : ∀ {D : Ends} (W8 : Wd) (w : Str) (v8 v9 : Option V), (∀ σ W, Pv (i + 1) σ W → D.nx σ W.H) → On W4 W8 → Md [p, c] W W8 → St W8 p c → LMut K W8 sa (xs.eraseIdx kk) → LMut K W8 fa ys → IsWord w → (ys ++ [w] ++ xs.eraseIdx kk).Nodup →
        tDrop (tBM K "list" rAppend (tVar 5) (tCons (tVar 7) tNil)) D [some (.ref p), some (.int lo), some (.int hi), some (.ref sa), some (.str al), some (.ref fa), some (.int i), some (.str w), v8, v9] W8.H := fun {D} W8 w v8 v9 kD o8 M8 s8 ms8 mf8 hw hn => by
      refine s_append (i := 5) (y := w) rfl mf8 (ev_var (i := 7) rfl eS) (by omega) fun W9 g9 o9 m9 => ?_
      refine kD _ W9 ⟨_, _, _, _, xs.eraseIdx kk, ys ++ [w], rfl, o8.trans o9, Md.fresh M8 (g9.mono (by simp)) ffW, s8.off g9 (by simp [fap.symm]) (by simp [fac.symm]), ms8.g g9 (by simpa using fa_sa.symm), m9, hn, fun z hz => ?_, by simp [yl], by omega⟩
      rcases List.mem_append.mp hz with hz | hz
      · rcases List.mem_append.mp hz with hz | hz
        · exact wd z (List.mem_append_left _ hz)
        · rw [List.mem_singleton.mp hz]; exact hw
      · exact wx z hz
    have kD : ∀ σ W, Pv (i + 1) σ W → ∃ W', W'.H = W.H ∧ Pv (i + 1) σ W' := fun σ W h => ⟨W, rfl, h⟩
    have s7' : (drw p c).I W7 := s7
    refine q_whenQ (ε := drw p c) (W := W7) (etq (ep_eq K (P := fun n => 0 ≤ n ∧ n < 4) (ev_draw (K := K) (i := 0) rfl (ev_int (n := 4)) (by decide) (by decide)))) s7' (fun W8 g8 => ?_) (fun W8 g8 => ?_)
    · have joined : EvP (drw p c) (tJoin K (tC (.str "")) (tLc (iRng1 (tCons (tOp oAdd (tC (.int 1)) (tCall (sp__law_draw K) [] E0 (tCons (tVar 0) (tCons (tC (.int 6)) tNil)))) tNil)) (gName 9) tYes (tOp rIxS (tVar 4) (tCall (sp__law_draw K) [] E0 (tCons (tVar 0) (tCons (tC (.int 26)) tNil)))) [9]))
          [some (.ref p), some (.int lo), some (.int hi), some (.ref sa), some (.str al), some (.ref fa), some (.int i), some (.str xs[kk]), v8, v9] W8 (fun v _ => ∃ w, v = .str w ∧ IsWord w) := by
        refine ep_join (fun W1 g1 Q q => (ep_lcQ (α := Int) (β := Str) (R := IsSign) (ei_rngQ (P := fun n => 1 ≤ n ∧ n ≤ 6) (fun W1 g1 Q q => ep_add (m := 1) (P := fun n => 0 ≤ n ∧ n < 6) (ev_draw (K := K) (i := 0) rfl (ev_int (n := 6)) (by decide) (by decide)) W1 g1 Q fun v W2 g2 ⟨n, e, h⟩ => q v W2 g2 ⟨1 + n, e, by omega, by omega⟩) (fun n h => by omega)) (fun xs ⟨n, h, e⟩ => by rw [e, rng_len]; omega) (fun x v W' g rx W1 g1 Q q => ?_)) W1 g1 Q fun v W2 g2 ⟨xs', ys', ⟨n, h, e⟩, hl, hs, hr⟩ => q v W2 g2 ⟨ys', by rw [hl, e, rng_len]; omega, by rw [hl, e, rng_len]; omega, hs, hr⟩)
        refine ⟨_, rfl, ev_draw (K := K) (σ := (wipe [some (.ref p), some (.int lo), some (.int hi), some (.ref sa), some (.str al), some (.ref fa), some (.int i), some (.str xs[kk]), v8, v9] [9]).set 9 (some v)) (i := 0) (p := p) (c := c) rfl (ev_int (n := 26)) (by decide) (by decide) W1 g1 _ fun u W2 g2 ⟨z, e, z0, z1⟩ => ?_⟩
        obtain ⟨zz, rfl⟩ : ∃ zz : Nat, z = zz := ⟨z.toNat, by omega⟩
        exact ⟨al, zz, 97 + zz, rfl, e, by decide +kernel, atI_nat (al_at zz (by omega)), q _ W2 g2 ⟨⟨#[97 + zz]⟩, ⟨97 + zz, by omega, by omega, rfl⟩, rfl⟩⟩
      refine q_asgP (ε := drw p c) joined g8.i fun v W9 g9 ⟨w, e9, hw⟩ => ?_
      subst e9
      have g79 := g8.trans g9
      have ms9 := ms7.g g79.md (by simp [drw, sap, sac])
      have mf9 := mf7.g g79.md (by simp [drw, fap, fac])
      obtain ⟨us9, es9, rs9⟩ := ms9.ex
      obtain ⟨uf9, ef9, rf9⟩ := mf9.ex
      have e1 := reps_str rs9
      have e2 := reps_str rf9
      show tAsg _ _ _ [some (.ref p), some (.int lo), some (.int hi), some (.ref sa), some (.str al), some (.ref fa), some (.int i), some (.str xs[kk]), some (.str w), v9] W9.H
      refine ⟨_, rfl, _, rfl, _, rfl, fa, sa, uf9, us9, rfl, rfl, ef9, es9, by rw [Reps.len rf9, Reps.len rs9]; exact Evl.sz_of (by omega), fun z hz => ⟨Str, inferInstance, inferInstance, w, ys ++ xs.eraseIdx kk, ?_, ?_, by decide, _, rfl, ?_⟩⟩
      · exact PyD.dp (α := Str) rfl
      · exact PyD.dp (α := List Str) ⟨z, _, rfl, upd_same, by rw [e1, e2, ← List.map_append]; exact str_reps _⟩
      · have W10f := W9.free hz
        have g10 : Grow W9 (W9.put z (.lst (uf9 ++ us9)) W10f) := W9.grow_put hz
        have o10 := (o7.trans g79.on).trans g10.on
        have M10 := (M7.trans g79.md).trans (Grow.s g10)
        have s10 := (show St W9 p c from g9.i).g g10
        by_cases hm : w ∈ ys ++ xs.eraseIdx kk
        · rw [if_pos (rfl : true = true), decide_eq_true hm]
          show if (!true) = true then _ else _
          rw [if_neg (by decide)]
          exact ⟨_, rfl, fin (W9.put z _ W10f) xs[kk] (some (.str w)) v9 kD o10 M10 s10 (ms9.gr g10) (mf9.gr g10) w7 nd7⟩
        · rw [if_pos (rfl : true = true), decide_eq_false hm]
          show if (!false) = true then _ else _
          rw [if_pos (by decide)]
          refine ⟨_, rfl, fin (W9.put z _ W10f) w (some (.str w)) v9 kD o10 M10 s10 (ms9.gr g10) (mf9.gr g10) hw ?_⟩
          have nd' : (ys ++ xs.eraseIdx kk).Nodup := List.Nodup.sublist (List.Sublist.append (List.Sublist.refl _) (List.eraseIdx_sublist _ _)) nd
          have : (ys ++ [w] ++ xs.eraseIdx kk).Perm (w :: (ys ++ xs.eraseIdx kk)) := by
            rw [List.append_assoc, List.singleton_append]
            exact List.perm_middle
          exact this.nodup_iff.mpr (List.nodup_cons.mpr ⟨hm, nd'⟩)
    · exact fin W8 xs[kk] v8 v9 kD (o7.trans g8.on) (M7.trans g8.md) g8.i (ms7.g g8.md (by simp [drw, sap, sac])) (mf7.g g8.md (by simp [drw, fap, fac])) w7 nd7
  · rintro σ' W5 ⟨v6, v7, v8, v9, xs, ys, rfl, o5, M5, s5, ms5, mf5, nd, wd, yl, xl⟩
    obtain ⟨o, ho, rf, ex, kf⟩ := mf5.fix
    refine ⟨_, rfl, ?_⟩
    refine k (.ref fa) ys (W5.fix fa o ho) (kf W [p, c] M5 ffW) (s5.keep rfl rfl (upd_ne fap.symm) (upd_ne fac.symm)) rf ⟨by omega, by omega, (List.nodup_append.mp nd).1, fun w hw => wd w (List.mem_append_left _ hw)⟩ (by omega) (by omega)
end
end B
/-! B: dicts locked for good, dict(pairs), list(values), a dict's copy; what jars tell, by any expression -/
namespace B
open PySem L2 PyProof.Rows
open PySem.W (Tup T3 T4 Datum DatumOrd)
open Evl (Ex)
/-- a thing is evaluated, and locked for good -/
def tFrz (te : TE) : TE := fun σ H Q => te σ H fun x H1 => ∃ d u, x = .ref d ∧ H1 d = some u ∧ Mut (some u) ∧ ∀ od, Q x (upd H1 d (.frz od u))
theorem pe_frz {X : Cx} {e : Expr} {t : TE} (h : PE X e t) : PE X e (tFrz t) := by
  refine ⟨fun pins s σ H Q I hw => ?_⟩
  refine thn (h.run pins s σ _ _ I hw) fun v s1 ⟨x, H1, I1, rx, d, u, ex, hd, mu, q⟩ => ?_
  obtain ⟨od, I2⟩ := I1.lock hd mu
  exact ⟨x, _, I2, rx, q od⟩
abbrev rDictP (K : Fg) : List V → Hp → VK → Prop := fun xs H Q => ∃ (a : Addr) (ps : List Addr) (kvs : List (Key × V)), xs = [.ref a] ∧ SqL K H a (ps.map V.ref) ∧ Paired (fun p kv => SqT K H p [kV kv.1, kv.2]) ps kvs ∧ ∀ p, H p = none → Q (.ref p) (upd H p (.dK (mergeK [] kvs)))
/-- list(d.values()) -/
def rListV : List V → Hp → VK → Prop := fun vs H Q => ∃ (v a : Addr) (kvs : List (Key × V)) (is : List Int), vs = [V.ref v] ∧ H v = some (viewHO v a) ∧ H a = some (.dK kvs) ∧ kvs.map (·.2) = is.map V.int ∧ ∀ p, H p = none → Q (.ref p) (upd H p (.lst (is.map V.int)))
theorem cr_listV {X : Cx} (hc : X.calm = true) : CallR X (.type "list") rListV := by
  intro pins s σ H xs us Q I r h
  obtain ⟨v, a, kvs, is, rfl, hv, ha, hi, q⟩ := h
  obtain rfl := Vals.ref1 r
  obtain ⟨vs, ep, e, dat, hl, hz, hval⟩ := view_at I hv ha hi
  have hz2 : vs.length ≤ sizeLine := by
    rw [hl]
    have := congrArg List.length hi
    rw [List.length_map, List.length_map] at this
    rw [← this]; exact hz
  refine PySem.W.kdl_call (PySem.W.kdl_values (prog := X.prog) (w := X.w) (knd := mixKind X.prog X.w) (d := a) (r := v) (kvs := vs) (ep := ep)) (I.ok.hd hc) ⟨⟨_, e, rfl, rfl⟩, dat⟩ hz2 fun h' tk acc c hk hS hacc => ?_
  have hal : acc.toList.length = is.length := by rw [Array.length_toList, hacc.1, hl]
  have hI : IntsAre acc.toList is := ints_each hal fun j u e => hval j u (hacc.2 j u (by rw [← Array.getElem?_toList]; exact e))
  have hlen : (is.map V.int).length ≤ sizeLine := by rw [List.length_map, ← hl]; exact hz2
  exact ⟨.ref s.heap.objs.size, _, I.laid (t' := tk) hk (Nat.le_refl _) (show ObjOk X.prog X.w _ _ _ (.lst (is.map V.int)) from ⟨hlen, acc.toList, c, vals_of_ints hI, by rw [Array.toArray_toList]; exact hS⟩), rfl, q _ (I.hok.fresh (Nat.le_refl _))⟩
/-- a new thing, locked or not, that stays -/
theorem md_new {S : List Addr} {W W' W3 : Wd} (g : Md S W W') {p : Addr} {o : HO} (f : W.H p = none) (n : W'.B p = none) (hB : W3.B = upd W'.B p o) (hH : W3.H = upd W'.H p o) (ho : ∀ xs, o ≠ .tup xs := by intro _ h; cases h) : Md S W W3 := by
  have np : ∀ {a : Addr}, W.H a ≠ none → a ≠ p := fun h z => h (by rw [z]; exact f)
  refine ⟨fun a u e => ?_, fun a u e1 e2 => ?_, fun a u e1 e2 => ?_, fun a ha => ?_, fun a ha => ?_, fun a ha => ?_⟩
  · have q : a ≠ p := fun z => by rw [z, W.free f] at e; cases e
    rw [hB, upd_ne q]; exact g.b a u e
  · have q := np (a := a) (by rw [e2]; exact fun z => by cases z)
    rw [hH, upd_ne q]; exact g.l a u e1 e2
  · have q := np (a := a) (by rw [e2]; exact fun z => by cases z)
    rw [hH, upd_ne q]; exact g.o a u e1 e2
  · rw [hB, upd_ne (np ha.ne)]; exact g.m a ha
  · rw [hH, upd_ne (np ha)]; exact g.d a ha
  · rw [hH]
    obtain ⟨u, e, hu⟩ := g.n a ha
    exact ⟨u, (upd_ne (np ha.ne)).trans e, hu⟩
section
variable {κ α : Type} [DecidableEq κ] [PyKV κ] [Py α] {K : Fg} {W : Wd} {σ : SS} {ε : Ef} {te : TE} {kv : List (κ × α)} {d : Addr}
theorem src_frz {p : Addr} {od : Obj} {ks : List (Key × V)} {W3 : Wd} (hB : W3.B p = some (.frz od (.dK ks))) (hH : W3.H p = some (.frz od (.dK ks))) (r : KReps K W3.B ks kv) : Src K (Iti p od ks) (On W3) kv :=
  ⟨fun i W' o hi => ⟨o.l _ _ hB hH, by rw [KReps.len r]; exact hi⟩, fun i W' v H'' o hi ⟨T, k', v', h1, e1, hT, e2⟩ => by
    obtain ⟨q, hq, hk, hr⟩ := KReps.get r h1
    refine ⟨q, W'.add T _, e2.symm, W'.grow_add hT, hq, T, _, _, e1, upd_same, ?_, rep_g (W'.grow_add hT) (rex o.b hr)⟩
    rw [hk]
    exact PyKV.krep _ _ _, fun i W' o hi => ⟨o.l _ _ hB hH, by rw [KReps.len r]; exact hi⟩⟩
/-- items of a new dict, which is locked for good -/
theorem ei_itemsF (h : EvM ε K te σ W kv) : EvJ ε K (iItems (tFrz te)) σ W kv := fun W1 g1 R k => h W1 g1 _ fun p W2 g2 f m => by
  obtain ⟨ks, e, r⟩ := m.ex
  refine ⟨p, _, rfl, e, trivial, fun od => ?_⟩
  have sub : Ext (upd W2.B p (.frz od (.dK ks))) (upd W2.H p (.frz od (.dK ks))) := fun a u e => by
    by_cases q : a = p
    · subst q; rw [upd_same] at e; cases e; exact .inl upd_same
    · rw [upd_ne q] at e; rw [upd_ne q]; exact W2.sub a u e
  let W3 : Wd := ⟨upd W2.B p (.frz od (.dK ks)), upd W2.H p (.frz od (.dK ks)), sub⟩
  have ex : Ex W2.B W3.B := fun a u e => by
    have q : a ≠ p := fun z => by rw [z, m.b] at e; cases e
    show upd W2.B p _ a = some u
    rw [upd_ne q]; exact e
  have pS : p ∉ ε.S := Ef.off g1.i f
  have G : Stp ε W1 W3 := ⟨md_new g2.md f m.b rfl rfl, ε.mv W2 W3 ex (fun a hS _ => by
    have q : a ≠ p := fun z => pS (z ▸ hS)
    exact ⟨upd_ne q, upd_ne q⟩) g2.i⟩
  exact ⟨p, od, ks, rfl, upd_same, k (Iti p od ks) W3 G (src_frz upd_same upd_same (KReps.mono (exExt ex) r))⟩
/-- the turns of a for over what J walks in every world that S tells -/
theorem for_srcG {β : Type} [Py β] {tu : TS} {D : Ends} {g : TG} {xs : List β} {J : It} {S : Wd → Prop} {W2 : Wd} (src : Src K J S xs) (Pv : Nat → SS → Wd → Prop) (h0 : Pv 0 σ W2) (hon : ∀ i σ' W', Pv i σ' W' → S W')
    (hs : ∀ i x v σ' W' W'', i < xs.length → xs[i]? = some x → Pv i σ' W' → Grow W' W'' → rep K W''.B v x → g v σ' W''.H fun σ2 H2 => tu { D with nx := fun σ H => ∃ W, W.H = H ∧ Pv (i + 1) σ W, ct := fun σ H => ∃ W, W.H = H ∧ Pv (i + 1) σ W, bk := D.nx } σ2 H2)
    (hd : ∀ σ' W', Pv xs.length σ' W' → D.nx σ' W'.H) :
    ∃ W : Nat → Nat → SS → Hp → Prop, (∃ m, W 0 m σ W2.H) ∧ ∀ i m σ H, W i m σ H →
      (J.stop i H ∧ D.nx σ H) ∨ (J.go i H ∧ ∃ N : SS → Hp → Prop, (∀ σ' H', N σ' H' → ∃ m', m' < m ∧ W (i + 1) m' σ' H') ∧ ∀ x H', J.yld i H x H' → g x σ H' fun σ2 H2 => tu { D with nx := N, ct := N, bk := D.nx } σ2 H2) := by
  refine ⟨fun i m σ H => m = xs.length - i ∧ i ≤ xs.length ∧ ∃ W, W.H = H ∧ Pv i σ W, ⟨xs.length, rfl, Nat.zero_le _, W2, rfl, h0⟩, ?_⟩
  rintro i m σ' H ⟨rfl, hle, W', rfl, p⟩
  by_cases hlt : i < xs.length
  · refine .inr ⟨src.go i W' (hon i σ' W' p) hlt, fun σ H => ∃ W, W.H = H ∧ Pv (i + 1) σ W, fun σ'' H'' q => ⟨_, by omega, rfl, hlt, q⟩, fun v H'' hy => ?_⟩
    obtain ⟨x, W'', rfl, gg, hx, r⟩ := src.yld i W' v H'' (hon i σ' W' p) hlt hy
    exact hs i x v σ' W' W'' hlt hx p gg r
  · have e : i = xs.length := by omega
    subst e
    exact .inl ⟨src.stop _ W' (hon _ _ _ p) (Nat.le_refl _), hd σ' W' p⟩
/-- for k, v in d.items(), d locked for good -/
theorem s_forFrz {D : Ends} {g : TG} {tu : TS} (hd : EvR pur K te σ W (Raw.mk (.ref d))) (m : DMut K W d kv)
    (k : ∀ W2, Md [d] W W2 → ∃ Pv : Nat → SS → Wd → Prop, Pv 0 σ W2 ∧ (∀ i σ' W', Pv i σ' W' → ∃ S, d ∉ S ∧ Md S W2 W') ∧
      (∀ i x v σ' W' W'', i < kv.length → kv[i]? = some x → Pv i σ' W' → Grow W' W'' → rep K W''.B v x → g v σ' W''.H fun σ2 H2 => tu { D with nx := fun σ H => ∃ W, W.H = H ∧ Pv (i + 1) σ W, ct := fun σ H => ∃ W, W.H = H ∧ Pv (i + 1) σ W, bk := D.nx } σ2 H2) ∧
      (∀ σ' W', Pv kv.length σ' W' → D.nx σ' W'.H)) : tFor (iItems (tFrz te)) g tu D σ W.H := hd W (.start trivial) _ fun v W2 g2 e => by
  have g := g2.pure
  have m2 := m.gr g
  obtain ⟨ks, e2, r⟩ := m2.ex
  refine ⟨d, _, e, e2, trivial, fun od => ?_⟩
  let W3 := W2.put d (.frz od (.dK ks)) m2.b
  have M : Md [d] W W3 := (Grow.s g).trans (md_put m2.b)
  obtain ⟨Pv, h0, hst, hs, hd⟩ := k W3 M
  have h3 : W3.H d = some (.frz od (.dK ks)) := upd_same
  refine ⟨d, od, ks, e, upd_same, for_srcG (J := Iti d od ks) (S := fun W' => W'.H d = some (.frz od (.dK ks)) ∧ Ex W3.B W'.B) (W2 := W3) ⟨fun i W' o hi => ⟨o.1, by rw [KReps.len r]; exact hi⟩, fun i W' v H'' o hi ⟨T, k', v', h1, e1, hT, e2⟩ => ?_, fun i W' o hi => ⟨o.1, by rw [KReps.len r]; exact hi⟩⟩ Pv h0 (fun i σ' W' p => ?_) hs hd⟩
  · obtain ⟨q, hq, hk, hr⟩ := KReps.get r h1
    refine ⟨q, W'.add T _, e2.symm, W'.grow_add hT, hq, T, _, _, e1, upd_same, ?_, rep_g (W'.grow_add hT) (rex o.2 hr)⟩
    rw [hk]
    exact PyKV.krep _ _ _
  · obtain ⟨S, hS, g⟩ := hst i σ' W' p
    exact ⟨g.o _ _ hS h3, g.b⟩
end
section
variable {κ α : Type} [DecidableEq κ] [PyKV κ] [Py α] {K : Fg} {W : Wd} {σ : SS} {ε : Ef} {te : TE} {kv : List (κ × α)} {d : Addr}
theorem kreps_fill {H : Hp} {kvs : List (Key × V)} {xs : List (κ × α)} (r : KReps K H kvs xs) : KReps K H (mergeK [] kvs) (kfill xs) := by
  have go : ∀ {kvs : List (Key × V)} {xs : List (κ × α)}, KReps K H kvs xs → ∀ (a : List (Key × V)) (b : List (κ × α)), KReps K H a b → KReps K H (mergeK a kvs) (xs.foldl (fun kv e => kput kv e.1 e.2) b) := by
    intro kvs xs r
    induction r with
    | nil => exact fun a b h => h
    | @cons p q _ _ e _ ih =>
      intro a b h
      have : KReps K H (putK a p.1 p.2) (kput b q.1 q.2) := by rw [e.1]; exact h.put q.1 e.2
      exact ih _ _ this
  exact go r [] [] .nil
/-- dict(pairs) -/
theorem em_dictP {xs : List (κ × α)} (h : EvR ε K te σ W xs) : EvM ε K (tCB (rDictP K) (tCons te tNil)) σ W (kfill xs) := fun W1 g1 Q k => h W1 g1 _ fun v W2 g2 ⟨a, vs, e, s, r⟩ => by
  have : ∀ {vs : List V} {xs : List (κ × α)}, Reps K W2.B vs xs → ∃ (ps : List Addr) (kvs : List (Key × V)), vs = ps.map V.ref ∧ Paired (fun p (kv : Key × V) => SqT K W2.H p [kV kv.1, kv.2]) ps kvs ∧ KReps K W2.B kvs xs := by
    intro vs xs r
    induction r with
    | nil => exact ⟨[], [], rfl, .nil, .nil⟩
    | @cons v x _ _ h _ ih =>
      obtain ⟨b, y, z, e1, e2, e3, e4⟩ := h
      obtain ⟨ps, kvs, f1, f2, f3⟩ := ih
      have ey : y = kV (PyKey.key x.1) := PyKV.keyv e3
      exact ⟨b :: ps, (PyKey.key x.1, z) :: kvs, by rw [e1, f1]; rfl, .cons (SqT.of (W2.sub.et (by rw [e2, ey]))) f2, .cons ⟨rfl, e4⟩ f3⟩
  obtain ⟨ps, kvs, f1, f2, f3⟩ := this r
  exact ⟨a, ps, kvs, by rw [e], by rw [← f1]; exact SqL.of (W2.sub.el s), f2, fun p hp => k p (W2.put p _ (W2.free hp)) (g2.and (W2.grow_put hp)) (was_none g2.md hp) ⟨W2.free hp, _, upd_same, kreps_fill f3⟩⟩
/-- dict(d) -/
theorem em_copy (hd : EvR ε K te σ W (Raw.mk (.ref d))) (m : DStay ε K W d kv) : EvM ε K (tCB rDictC (tCons te tNil)) σ W kv := fun W1 g1 Q k => hd W1 g1 _ fun v W2 g2 e => by
  obtain ⟨ks, e2, r⟩ := m _ (g1.trans g2)
  exact ⟨d, ks, by rw [show v = V.ref d from e], .inl e2, fun p hp => k p (W2.put p _ (W2.free hp)) (g2.and (W2.grow_put hp)) (was_none g2.md hp) ⟨W2.free hp, _, upd_same, r⟩⟩
end
theorem ev_listVE {κ : Type} [DecidableEq κ] [PyKey κ] {K : Fg} {W : Wd} {d : Addr} {kv : List (κ × Int)} {ε : Ef} {σ : SS} {te : TE} (hd : EvR ε K te σ W (Raw.mk (.ref d))) (m : DStay ε K W d kv) : EvR ε K (tCB rListV (tCons (tVals te) tNil)) σ W (kv.map (·.2)) := fun W1 g1 Q k => hd W1 g1 _ fun v W2 g2 e => by
  obtain ⟨ks, e3, r⟩ := m _ (g1.trans g2)
  refine ⟨d, ks, e, e3, fun v hv => ?_⟩
  have gv := W2.grow_put (o := viewHO v d) hv
  refine ⟨v, d, ks, kv.map (·.2), rfl, upd_same, by rw [upd_ne (fun z => by rw [z, hv] at e3; cases e3)]; exact e3, kreps_ints r, fun p hp => ?_⟩
  exact k _ ((W2.put v (viewHO v d) (W2.free hv)).add p _) ((g2.and gv).and (Wd.grow_add _ hp)) ⟨p, _, rfl, upd_same, int_reps _⟩
/-! ### what jars tell -/
section
variable {K : Fg} {CL CJ : Addr} {W W' : Wd} {x i d : Addr} {names : List Str} {n : Nat} {s : Ins × Lots} {ε : Ef} {σ : SS} {te : TE} {j : Nat}
/-- jars stand, now and while ε is at work -/
def JStay (ε : Ef) (K : Fg) (CL CJ : Addr) (W : Wd) (x i d : Addr) (names : List Str) (n : Nat) (s : Ins × Lots) : Prop := ∀ W', Stp ε W W' → JarAt K CL CJ W' x i d names n s
theorem JarAt.stay (r : JarAt K CL CJ W x i d names n s) (hx : x ∉ ε.S) (hi : i ∉ ε.S) (hd : d ∉ ε.S) : JStay ε K CL CJ W x i d names n s := fun _ g => r.g g.md hx hi hd
theorem JarAt.pur (r : JarAt K CL CJ W x i d names n s) : JStay pur K CL CJ W x i d names n s := fun _ g => r.gr g.pure
theorem JStay.step (r : JStay ε K CL CJ W x i d names n s) (g : Stp ε W W') : JStay ε K CL CJ W' x i d names n s := fun _ h => r _ (g.trans h)
theorem ej_meth {R : V → Wd → Prop} {m : Str} {sp : Sp} (hd : EvR ε K te σ W (Raw.mk (.ref x))) (r : JStay ε K CL CJ W x i d names n s) (hm : ¬ m = "own_letters" ∧ ¬ m = "jar_number" ∧ ¬ m = "inside" ∧ ¬ m = "lost")
    (hs : ∀ W1, JarAt K CL CJ W1 x i d names n s → ∀ Q : VK, (∀ u W2, Grow W1 W2 → R u W2 → Q u W2.H) → sp [.ref x] W1.H Q E0) : EvP ε (tMeth CJ m sp [] E0 te tNil) σ W R := fun W1 g1 Q k => hd W1 g1 _ fun v W2 g2 e => by
  have r1 := r _ (g1.trans g2)
  obtain ⟨dx, l, h, hl⟩ := r1.ex
  rw [show v = V.ref x from e]
  exact ⟨x, dx, _, rfl, h, jf_no hm.1 hm.2.1 hm.2.2.1 hm.2.2.2, hs W2 r1 Q fun u W3 g3 hr => k u W3 (g2.and g3) hr⟩
theorem ej_many (hd : EvR ε K te σ W (Raw.mk (.ref x))) (r : JStay ε K CL CJ W x i d names n s) : EvR ε K (tMeth CJ "many" (sp_Jars_many K CJ) [] E0 te tNil) σ W (n : Int) :=
  ej_meth (R := fun v W => rep K W.B v (n : Int)) hd r (by decide +kernel) fun W1 r1 Q k => ⟨CL, W1, x, i, d, names, n, s, rfl, rfl, r1, fun W' g => k _ W' g rfl⟩
theorem ej_fed (hd : EvR ε K te σ W (Raw.mk (.ref x))) (r : JStay ε K CL CJ W x i d names n s) (ok : LotsOk n s.2) : EvR ε K (tMeth CJ "fed" (sp_Jars_fed K CJ) [] E0 te tNil) σ W (fedOf s) :=
  ej_meth (R := fun v W => rep K W.B v (fedOf s)) hd r (by decide +kernel) fun W1 r1 Q k => ⟨CL, W1, x, i, d, names, n, s, rfl, rfl, r1, ok, fun W' g => k _ W' g rfl⟩
theorem ej_kept (hd : EvR ε K te σ W (Raw.mk (.ref x))) (r : JStay ε K CL CJ W x i d names n s) : EvR ε K (tMeth CJ "kept" (sp_Jars_kept K CJ) [] E0 te tNil) σ W () :=
  ej_meth (R := fun v W => rep K W.B v ()) hd r (by decide +kernel) fun W1 r1 Q k => ⟨W1, .ref x, rfl, rfl, fun W' g => k _ W' g rfl⟩
theorem ej_letters (hd : EvR ε K te σ W (Raw.mk (.ref x))) (r : JStay ε K CL CJ W x i d names n s) : EvP ε (tMeth CJ "letters" (sp_Jars_letters K CJ) [] E0 te tNil) σ W (LetAt K CL names) :=
  ej_meth (R := LetAt K CL names) hd r (by decide +kernel) fun W1 r1 Q k => ⟨CL, W1, x, i, d, names, n, s, rfl, rfl, r1, fun v W' g h => k v W' g h⟩
theorem ej_counts (hd : EvR ε K te σ W (Raw.mk (.ref x))) (r : JStay ε K CL CJ W x i d names n s) (ok : InsOk names n s.1) (h8 : n ≤ 8) : EvM ε K (tMeth CJ "counts" (sp_Jars_counts K CJ) [] E0 te tNil) σ W (srt s.1) := fun W1 g1 Q k => hd W1 g1 _ fun v W2 g2 e => by
  have r1 := r _ (g1.trans g2)
  obtain ⟨dx, l, h, hl⟩ := r1.ex
  rw [show v = V.ref x from e]
  exact ⟨x, dx, _, rfl, h, jf_no (by decide +kernel) (by decide +kernel) (by decide +kernel) (by decide +kernel), CL, W2, x, i, d, names, n, s, rfl, rfl, r1, ok, h8, fun p W3 g3 f m => k p W3 (g2.and g3) (was_none g2.md f) m⟩
theorem ej_lots (hd : EvR ε K te σ W (Raw.mk (.ref x))) (r : JStay ε K CL CJ W x i d names n s) (ok : LotsOk n s.2) : EvM ε K (tMeth CJ "lots" (sp_Jars_lots K CJ) [] E0 te tNil) σ W (srtI s.2) := fun W1 g1 Q k => hd W1 g1 _ fun v W2 g2 e => by
  have r1 := r _ (g1.trans g2)
  obtain ⟨dx, l, h, hl⟩ := r1.ex
  rw [show v = V.ref x from e]
  exact ⟨x, dx, _, rfl, h, jf_no (by decide +kernel) (by decide +kernel) (by decide +kernel) (by decide +kernel), CL, W2, x, i, d, names, n, s, rfl, rfl, r1, ok, fun p W3 g3 f m => k p W3 (g2.and g3) (was_none g2.md f) m⟩
theorem ev_counts (hd : σ[j]? = some (some (.ref x))) (r : JarAt K CL CJ W x i d names n s) (ok : InsOk names n s.1) (h8 : n ≤ 8) : EvD pur K (tMeth CJ "counts" (sp_Jars_counts K CJ) [] E0 (tVar j) tNil) σ W (⟨srt s.1⟩ : Dict Str Int) := (ej_counts (ev_rvar hd) r.pur ok h8).toD
theorem ev_lots (hd : σ[j]? = some (some (.ref x))) (r : JarAt K CL CJ W x i d names n s) (ok : LotsOk n s.2) : EvD pur K (tMeth CJ "lots" (sp_Jars_lots K CJ) [] E0 (tVar j) tNil) σ W (⟨srtI s.2⟩ : Dict Int Int) := (ej_lots (ev_rvar hd) r.pur ok).toD
theorem ev_many (hd : σ[j]? = some (some (.ref x))) (r : JarAt K CL CJ W x i d names n s) : EvR pur K (tMeth CJ "many" (sp_Jars_many K CJ) [] E0 (tVar j) tNil) σ W (n : Int) := ej_many (ev_rvar hd) r.pur
theorem ev_fed (hd : σ[j]? = some (some (.ref x))) (r : JarAt K CL CJ W x i d names n s) (ok : LotsOk n s.2) : EvR pur K (tMeth CJ "fed" (sp_Jars_fed K CJ) [] E0 (tVar j) tNil) σ W (fedOf s) := ej_fed (ev_rvar hd) r.pur ok
theorem ev_kept (hd : σ[j]? = some (some (.ref x))) (r : JarAt K CL CJ W x i d names n s) : EvR pur K (tMeth CJ "kept" (sp_Jars_kept K CJ) [] E0 (tVar j) tNil) σ W () := ej_kept (ev_rvar hd) r.pur
theorem ep_letters' (hd : σ[j]? = some (some (.ref x))) (r : JarAt K CL CJ W x i d names n s) : EvP pur (tMeth CJ "letters" (sp_Jars_letters K CJ) [] E0 (tVar j) tNil) σ W (LetAt K CL names) := ej_letters (ev_rvar hd) r.pur
theorem reps_raw {H : Hp} : ∀ {us : List V} {xs : List Raw}, Reps K H us xs → us = xs.map Raw.v
  | _, _, .nil => rfl
  | _, _, .cons a b => by rw [show _ = _ from a, reps_raw b]; rfl
theorem ep_atoms {σ : SS} {W : Wd} {te : TE} {xs : List Raw} {ds : List PyData} (h : EvR pur K te σ W xs) (ha : ∀ H : Hp, DpAll K H (xs.map Raw.v) ds) : EvP pur te σ W (fun v W' => Dp K W'.H v (.list ds)) := fun W1 g1 Q k => h W1 g1 Q fun v W2 g2 ⟨a, us, e, s, r⟩ => k v W2 g2 (by
  rw [e]
  exact .lst (SqL.of (W2.sub.el s)) (by rw [reps_raw r]; exact ha _))
end
end B
/-! jars made -/
namespace B
open PySem L2
open PySem.W (Tup T3 T4 Datum DatumOrd)
open Evl (Ex)
section
variable {K : Fg} {CL CJ : Addr}
/-- jars made -/
theorem ep_jars {W : Wd} {σ : SS} {tl tn : TE} {names : List Str} {n : Nat} (hl : EvP pur tl σ W (LetAt K CL names)) (hn : EvR pur K tn σ W (n : Int)) (h1 : 1 ≤ n) (h8 : n ≤ 8) :
    EvP pur (tMake CJ (sp_Jars___init__ K CL CJ) [] E0 (tCons tl (tCons tn tNil))) σ W (fun v W' => ∃ y i d, v = .ref y ∧ JarAt K CL CJ W' y i d names n ([], []) ∧ W.H y = none ∧ W.H i = none ∧ W.H d = none) := fun W0 g0 Q k => hl W0 g0 _ fun vl W1 g1 hl1 => hn W1 (g0.trans g1) _ fun v2 W2 g2 r2 y dx hy hdx ne => by
  rw [show v2 = _ from r2]
  let Wa := W2.put dx (.own y) (W2.free hdx)
  have ga : Grow W2 Wa := W2.grow_put hdx
  have hy' : Wa.H y = none := (upd_ne ne.symm).trans hy
  let Wb := Wa.put y (.ins CJ dx []) (Wa.free hy')
  have gb : Grow Wa Wb := Wa.grow_put hy'
  have gab := ga.trans gb
  have g02 := (g0.trans (g1.trans g2)).pure
  refine ⟨Wb, y, dx, vl, .int n, names, .int n, rfl, rfl, Wa.free hy', upd_same, ((hl1.s g2).g ga).g gb, rfl, .inl ⟨n, rfl, h1, h8, fun W3 i' d' m3 r3 fi fd => ⟨rfl, ?_⟩⟩⟩
  have M : Md [y] W2 W3 := (Grow.s gab).trans m3
  exact k _ W3 ((g1.trans g2).and (Md.fresh (.refl [] W2) M hy)) ⟨y, i', d', rfl, r3, was_none g02 hy, was_none (g02.trans gab) fi, was_none (g02.trans gab) fd⟩
/-- what is no number of jars -/
theorem e_jarsBad {W : Wd} {σ : SS} {tl tn : TE} {names : List Str} {o : Odd} {E : XK} {Q : VK} (hl : EvP pur tl σ W (LetAt K CL names)) (hn : EvR pur K tn σ W o) (bad : ∀ a : Int, o = .int a → ¬ (1 ≤ a ∧ a ≤ 8)) (k : ∀ W', Grow W W' → E (.ref (cErr K "NoMany")) none W'.H) :
    tMake CJ (sp_Jars___init__ K CL CJ) [] E (tCons tl (tCons tn tNil)) σ W.H Q := hl W (.start trivial) _ fun vl W1 g1 hl1 => hn W1 g1 _ fun v2 W2 g2 r2 y dx hy hdx ne => by
  let Wa := W2.put dx (.own y) (W2.free hdx)
  have ga : Grow W2 Wa := W2.grow_put hdx
  have hy' : Wa.H y = none := (upd_ne ne.symm).trans hy
  let Wb := Wa.put y (.ins CJ dx []) (Wa.free hy')
  have gb : Grow Wa Wb := Wa.grow_put hy'
  have gab := ga.trans gb
  exact ⟨Wb, y, dx, vl, v2, names, o, rfl, rfl, Wa.free hy', upd_same, ((hl1.s g2).g ga).g gb, rep_g gab r2, .inr ⟨bad, fun W3 g3 => k W3 ((g1.trans g2).pure.trans (gab.trans g3))⟩⟩
end
end B
/-! B: many things that may change, each apart from the others -/
namespace B
open PySem L2
open PySem.W (Tup T3 T4 Datum DatumOrd)
open Evl (Ex)
/-- a thing that may change: where it stands, what is told of it -/
structure Thing where
  as : List Addr
  P : Wd → Prop
  mono : ∀ {W W' : Wd} {S : List Addr}, P W → Md S W W' → (∀ a ∈ as, a ∉ S) → P W'
  dom : ∀ {W : Wd} {a : Addr}, P W → a ∈ as → W.H a ≠ none
abbrev Things := Nat → Nat → Option Thing
structure All (W : Wd) (f : Things) : Prop where
  at_ : ∀ g k q, f g k = some q → q.P W
  ap : ∀ g k q g' k' q', f g k = some q → f g' k' = some q' → (g ≠ g' ∨ k ≠ k') → ∀ a ∈ q.as, a ∉ q'.as
def thput (f : Things) (g k : Nat) (q : Thing) : Things := fun g' k' => if g' = g ∧ k' = k then some q else f g' k'
theorem thput_same {f : Things} {g k : Nat} {q : Thing} : thput f g k q g k = some q := if_pos ⟨rfl, rfl⟩
theorem thput_ne {f : Things} {g k g' k' : Nat} {q : Thing} (h : g' ≠ g ∨ k' ≠ k) : thput f g k q g' k' = f g' k' := if_neg (by rintro ⟨rfl, rfl⟩; rcases h with h | h <;> exact h rfl)
section
variable {W W' : Wd} {f : Things} {g k : Nat} {q q' : Thing} {S : List Addr}
theorem All.gr (h : All W f) (m : Grow W W') : All W' f := ⟨fun g k q e => q.mono (h.at_ g k q e) m (by simp), h.ap⟩
theorem All.none_ (W : Wd) : All W (fun _ _ => none) := ⟨(by intro g k q e; cases e), (by intro g k q g' k' q' e; cases e)⟩
/-- the thing at (g, k) has changed -/
theorem All.chg (h : All W f) (e : f g k = some q) (m : Md S W W') (hS : ∀ a ∈ S, a ∈ q.as) (hq : q'.P W') (hn : ∀ a ∈ q'.as, a ∈ q.as ∨ W.H a = none) : All W' (thput f g k q') := by
  have other : ∀ g2 k2 r, f g2 k2 = some r → (g2 ≠ g ∨ k2 ≠ k) → (∀ a ∈ r.as, a ∉ q.as) ∧ (∀ a ∈ r.as, a ∉ q'.as) := fun g2 k2 r er hne => by
    have h1 := h.ap _ _ _ _ _ _ er e hne
    refine ⟨h1, fun a ha z => ?_⟩
    rcases hn a z with y | y
    · exact h1 a ha y
    · exact r.dom (h.at_ _ _ _ er) ha y
  refine ⟨fun g2 k2 r er => ?_, fun g2 k2 r g3 k3 r' er er' hne a ha hb => ?_⟩
  · by_cases c : g2 = g ∧ k2 = k
    · obtain ⟨rfl, rfl⟩ := c
      rw [thput_same] at er
      cases er; exact hq
    · have c' : g2 ≠ g ∨ k2 ≠ k := by
        by_cases c1 : g2 = g
        · exact .inr fun c2 => c ⟨c1, c2⟩
        · exact .inl c1
      rw [thput_ne c'] at er
      exact r.mono (h.at_ _ _ _ er) m fun a ha z => (other _ _ _ er c').1 a ha (hS a z)
  · by_cases c : g2 = g ∧ k2 = k
    · obtain ⟨rfl, rfl⟩ := c
      rw [thput_same] at er
      cases er
      have c' : g3 ≠ g2 ∨ k3 ≠ k2 := hne.imp Ne.symm Ne.symm
      rw [thput_ne c'] at er'
      exact (other _ _ _ er' c').2 a hb ha
    · have c' : g2 ≠ g ∨ k2 ≠ k := by
        by_cases c1 : g2 = g
        · exact .inr fun c2 => c ⟨c1, c2⟩
        · exact .inl c1
      rw [thput_ne c'] at er
      by_cases d : g3 = g ∧ k3 = k
      · obtain ⟨rfl, rfl⟩ := d
        rw [thput_same] at er'
        cases er'
        exact (other _ _ _ er c').2 a ha hb
      · have d' : g3 ≠ g ∨ k3 ≠ k := by
          by_cases c1 : g3 = g
          · exact .inr fun c2 => d ⟨c1, c2⟩
          · exact .inl c1
        rw [thput_ne d'] at er'
        exact h.ap _ _ _ _ _ _ er er' hne a ha hb
/-- it stays as it is, though it was touched -/
theorem All.keep (h : All W f) (e : f g k = some q) (m : Md S W W') (hS : ∀ a ∈ S, a ∈ q.as) (hq : q.P W') : All W' f := by
  have := h.chg (q' := q) e m hS hq fun a ha => .inl ha
  have e2 : thput f g k q = f := by
    funext g' k'
    by_cases c : g' = g ∧ k' = k
    · obtain ⟨rfl, rfl⟩ := c; rw [thput_same, e]
    · exact if_neg c
  rwa [e2] at this
/-- a new thing -/
theorem All.new (h : All W f) (m : Grow W W') (hq : q.P W') (hn : ∀ a ∈ q.as, W.H a = none) (e : f g k = none) : All W' (thput f g k q) := by
  have other : ∀ g2 k2 r, f g2 k2 = some r → ∀ a ∈ r.as, a ∉ q.as := fun g2 k2 r er a ha z => r.dom (h.at_ _ _ _ er) ha (hn a z)
  refine ⟨fun g2 k2 r er => ?_, fun g2 k2 r g3 k3 r' er er' hne a ha hb => ?_⟩
  · unfold thput at er
    split at er
    · cases er; exact hq
    · exact (h.gr m).at_ _ _ _ er
  · unfold thput at er er'
    split at er
    · rename_i c
      cases er
      split at er'
      · rename_i c'
        obtain ⟨rfl, rfl⟩ := c
        obtain ⟨rfl, rfl⟩ := c'
        rcases hne with z | z <;> exact z rfl
      · exact other _ _ _ er' a hb ha
    · split at er'
      · cases er'; exact other _ _ _ er a ha hb
      · exact h.ap _ _ _ _ _ _ er er' hne a ha hb
theorem All.get (h : All W f) (e : f g k = some q) : q.P W := h.at_ _ _ _ e
theorem All.off (h : All W f) {g2 k2 : Nat} {r : Thing} (e : f g k = some q) (e' : f g2 k2 = some r) (hne : g ≠ g2 ∨ k ≠ k2) {a : Addr} (ha : a ∈ q.as) : a ∉ r.as := h.ap _ _ _ _ _ _ e e' hne a ha
end
/-- the state of draws -/
def stT (p c : Addr) : Thing := ⟨[p, c], fun W => St W p c, fun h m ha => h.off m (ha _ (by simp)) (ha _ (by simp)), fun h ha => by
  have := h.dom
  simp only [List.mem_cons, List.not_mem_nil, or_false] at ha
  rcases ha with rfl | rfl
  · exact this.1
  · exact this.2⟩
/-- jars -/
def jarT (K : Fg) (CL CJ : Addr) (names : List Str) (x i d : Addr) (n : Nat) (s : Ins × Lots) : Thing := ⟨[x, i, d], fun W => JarAt K CL CJ W x i d names n s, fun h m ha => h.g m (ha _ (by simp)) (ha _ (by simp)) (ha _ (by simp)), fun h ha => by
  simp only [List.mem_cons, List.not_mem_nil, or_false] at ha
  rcases ha with rfl | rfl | rfl
  · exact h.nt.ne
  · exact h.mi.nt.ne
  · exact h.md.nt.ne⟩
/-- a dict that changes -/
def tabT {κ α : Type} [DecidableEq κ] [PyKey κ] [Py α] (K : Fg) (t : Addr) (kv : List (κ × α)) : Thing := ⟨[t], fun W => DMut K W t kv, fun h m ha => h.g m (ha _ (by simp)), fun h ha => by
  rw [List.mem_singleton.mp ha]; exact h.nt.ne⟩
/-- a list that changes -/
def lstT {α : Type} [Py α] (K : Fg) (a : Addr) (xs : List α) : Thing := ⟨[a], fun W => LMut K W a xs, fun h m ha => h.g m (ha _ (by simp)), fun h ha => by
  rw [List.mem_singleton.mp ha]; exact h.nt.ne⟩
section
variable {W W' : Wd} {f : Things} {p c : Addr}
/-- draws change nothing else -/
theorem All.drw (h : All W f) {g k : Nat} (e : f g k = some (stT p c)) (m : Stp (drw p c) W W') : All W' f := h.keep e m.md (fun a ha => ha) m.i
end
/-- one more, apart from all -/
theorem All.add {W : Wd} {f : Things} {g k : Nat} {q : Thing} (h : All W f) (hq : q.P W) (hn : ∀ g k r, f g k = some r → ∀ a ∈ r.as, a ∉ q.as) (e : f g k = none) : All W (thput f g k q) := by
  refine ⟨fun g2 k2 r er => ?_, fun g2 k2 r g3 k3 r' er er' hne a ha hb => ?_⟩
  · unfold thput at er
    split at er
    · cases er; exact hq
    · exact h.at_ _ _ _ er
  · unfold thput at er er'
    split at er
    · rename_i c
      cases er
      split at er'
      · rename_i c'
        obtain ⟨rfl, rfl⟩ := c
        obtain ⟨rfl, rfl⟩ := c'
        rcases hne with z | z <;> exact z rfl
      · exact hn _ _ _ er' a hb ha
    · split at er'
      · cases er'; exact hn _ _ _ er a ha hb
      · exact h.ap _ _ _ _ _ _ er er' hne a ha hb
/-- [e for x in xs], e making things -/
theorem en_lcI {α : Type} [Py α] {K : Fg} {wi : TI} {te : TE} {σ : SS} {W : Wd} {j : Nat} {xs : List α} (hi : EvI pur K wi σ W xs) (I : List V → Things → Prop) {f0 : Things} (hA : All W f0) (h0 : I [] f0)
    (he : ∀ x v vs f W1, xs[vs.length]? = some x → Grow W W1 → rep K W1.B v x → All W1 f → I vs f → EvP pur te ((wipe σ [j]).set j (some v)) W1 (fun u W2 => ∃ g k q, I (vs ++ [u]) (thput f g k q) ∧ f g k = none ∧ q.P W2 ∧ ∀ a ∈ q.as, W1.H a = none)) (hl : xs.length ≤ 100000) :
    ∀ W1, Grow W W1 → ∀ Q : VK, (∀ p vs f W2, Grow W1 W2 → W1.H p = none → W2.B p = none → W2.H p = some (.lst vs) → vs.length = xs.length → All W2 f → I vs f → (∀ g k q, f g k = some q → p ∉ q.as) → Q (.ref p) W2.H) → tLc wi (gName j) tYes te [j] σ W1.H Q := fun W1 g1 Q k =>
  hi W1 (.of g1) _ fun J S W2 g2 s2 sg src D hD => by
    have A0 := hA.gr g1
    have hap0 : ∀ g k q, f0 g k = some q → D ∉ q.as := fun g k q e z => q.dom ((A0.gr g2.pure).at_ _ _ _ e) z hD
    refine ⟨fun i m H => m = xs.length - i ∧ i ≤ xs.length ∧ ∃ Wi vs f, Wi.H = H ∧ Md [] W2 Wi ∧ Wi.B D = none ∧ Wi.H D = some (.lst vs) ∧ vs.length = i ∧ All Wi f ∧ I vs f ∧ (∀ g k q, f g k = some q → D ∉ q.as),
      ⟨xs.length, rfl, Nat.zero_le _, W2.put D (.lst []) (W2.free hD), [], f0, rfl, W2.grow_put hD, W2.free hD, upd_same, rfl, (A0.gr g2.pure).gr (W2.grow_put hD), h0, hap0⟩, ?_⟩
    rintro i m H ⟨rfl, hle, Wi, vs, f, rfl, gi, bD, hDi, hvl, A, hI, hap⟩
    have si : S Wi := sg _ _ s2 (.of gi)
    by_cases hlt : i < xs.length
    · refine .inr ⟨src.go i Wi si hlt, fun H => i + 1 ≤ xs.length ∧ ∃ Wi vs f, Wi.H = H ∧ Md [] W2 Wi ∧ Wi.B D = none ∧ Wi.H D = some (.lst vs) ∧ vs.length = i + 1 ∧ All Wi f ∧ I vs f ∧ (∀ g k q, f g k = some q → D ∉ q.as), fun H' h' => ⟨_, by omega, rfl, h'⟩, fun v H'' hy => ?_⟩
      obtain ⟨x, W3, rfl, g3, hx, r⟩ := src.yld i Wi v H'' si hlt hy
      have m3 := g3.mut (S := []) (by simp) hDi bD
      refine ⟨wipe1, ?_⟩
      refine et_yes (ε := pur) W3 (.start trivial) _ fun W4 g4 => ?_
      rw [if_pos rfl]
      have m4 := g4.pure.mut (S := []) (by simp) m3.1 m3.2
      have G4 : Grow W W4 := g1.trans (g2.pure.trans (gi.trans (g3.trans g4.pure)))
      have A4 := A.gr (g3.trans g4.pure)
      refine he x v vs f W4 (by rw [hvl]; exact hx) G4 (rep_s g4 r) A4 hI W4 (.start trivial) _ fun u W5 g5 ⟨g, kk, q, e1, e2, e3, e4⟩ => ?_
      have m5 := g5.pure.mut (S := []) (by simp) m4.1 m4.2
      have A5 : All W5 (thput f g kk q) := A4.new g5.pure e3 e4 e2
      have ap5 : ∀ g' k' q', thput f g kk q g' k' = some q' → D ∉ q'.as := fun g' k' q' e => by
        unfold thput at e
        split at e
        · cases e
          intro z
          have := e4 D z
          rw [m4.1] at this; cases this
        · exact hap _ _ _ e
      have M : Md [D] W5 (W5.put D (.lst (vs ++ [u])) m5.2) := md_put m5.2
      refine ⟨vs, m5.1, Evl.sz_lt (by omega), hlt, W5.put D _ m5.2, vs ++ [u], _, rfl, Md.fresh (gi.trans (g3.trans (g4.pure.trans g5.pure))) M hD, m5.2, upd_same, by simp [hvl], ⟨fun g' k' q' e => ?_, A5.ap⟩, e1, ap5⟩
      exact q'.mono (A5.at_ _ _ _ e) M fun a ha hb => ap5 g' k' q' e (by rw [← List.mem_singleton.mp hb]; exact ha)
    · have e : i = xs.length := by omega
      subst e
      exact .inl ⟨src.stop _ Wi si (Nat.le_refl _), k D vs f Wi (g2.pure.trans gi) (was_none g2.pure hD) bD hDi hvl A hI hap⟩
/-! ### lists that may change, read and stored -/
section
variable {α β : Type} [Py α] [Py β] {K : Fg} {W W' : Wd} {d e : Addr} {xs : List α} {ys : List β} {σ : SS} {ε : Ef} {tb te : TE} {i j : Nat}
theorem ev_ixM {r : Int} {x : α} (hd : σ[i]? = some (some (.ref d))) (m : ∀ W', Stp ε W W' → LMut K W' d xs) (hi : EvR ε K tb σ W r) (h : atI xs r = some x) : EvR ε K (tOp (rIxL K) (tVar i) tb) σ W x := fun W1 g1 Q k => ⟨_, hd, hi W1 g1 _ fun v W2 g2 rv => by
  obtain ⟨vs, e, rr⟩ := (m W2 (g1.trans g2)).ex
  obtain ⟨w, h1, h2⟩ := reps_at rr h
  exact ⟨d, vs, r, w, rfl, rv, SqL.of e, h1, k w W2 g2 h2⟩⟩
theorem LMut.pur (m : LMut K W d xs) : ∀ W', Stp pur W W' → LMut K W' d xs := fun _ g => m.gr g.pure
theorem ei_zipM (h1 : σ[i]? = some (some (.ref d))) (h2 : σ[j]? = some (some (.ref e))) (m1 : LMut K W d xs) (m2 : LMut K W e ys) : EvI pur K (iZip K (tCons (tVar i) (tCons (tVar j) tNil))) σ W (xs.zip ys) := fun W1 g1 R k => by
  obtain ⟨vs, e1, r1⟩ := (m1.gr g1.pure).ex
  obtain ⟨us, e2, r2⟩ := (m2.gr g1.pure).ex
  refine ⟨_, h1, _, h2, d, e, vs, us, rfl, SqL.of e1, SqL.of e2, k (Itz K d e) (fun W' => Grow W1 W') W1 g1.rf (.refl _ _) (fun _ _ a b => a.trans b.pure) ⟨fun i W' o hi => ?_, fun i W' v H'' o hi ⟨T, x, y, f1, hT, f2, f3, f4⟩ => ?_, fun i W' o hi => ?_⟩⟩
  · have hi' : i < xs.length ∧ i < ys.length := by simp at hi; omega
    obtain ⟨x, hx⟩ : ∃ x, xs[i]? = some x := ⟨xs[i], by simp [hi'.1]⟩
    obtain ⟨y, hy⟩ : ∃ x, ys[i]? = some x := ⟨ys[i], by simp [hi'.2]⟩
    obtain ⟨v, h1, _⟩ := Reps.get' r1 hx
    obtain ⟨u, h2, _⟩ := Reps.get' r2 hy
    exact ⟨vs, us, v, u, SqL.of (o.h _ _ e1), SqL.of (o.h _ _ e2), h1, h2⟩
  · obtain ⟨p, h1, h2⟩ := Reps.get r1 (f3 vs (SqL.of (o.h _ _ e1)))
    obtain ⟨q, h3, h4⟩ := Reps.get r2 (f4 us (SqL.of (o.h _ _ e2)))
    refine ⟨(p, q), W'.add T _, f2.symm, W'.grow_add hT, ?_, T, x, y, f1, upd_same, rep_g (W'.grow_add hT) (rex o.b h2), rep_g (W'.grow_add hT) (rex o.b h4)⟩
    rw [List.getElem?_zip_eq_some]
    exact ⟨h1, h3⟩
  · refine ⟨vs, us, SqL.of (o.h _ _ e1), SqL.of (o.h _ _ e2), ?_⟩
    rw [Reps.len r1, Reps.len r2]
    simp at hi
    omega
theorem ei_listM (h1 : σ[i]? = some (some (.ref d))) (m1 : LMut K W d xs) : EvI pur K (iList K (tVar i)) σ W xs := fun W1 g1 R k => by
  obtain ⟨vs, e1, r1⟩ := (m1.gr g1.pure).ex
  refine ⟨_, h1, d, rfl, ⟨vs, SqL.of e1⟩, k (Itl K d) (fun W' => Grow W1 W') W1 g1.rf (.refl _ _) (fun _ _ a b => a.trans b.pure) ⟨fun i W' o hi => ?_, fun i W' v H'' o hi ⟨f1, f2⟩ => ?_, fun i W' o hi => ⟨vs, SqL.of (o.h _ _ e1), by rw [Reps.len r1]; exact hi⟩⟩⟩
  · obtain ⟨x, hx⟩ : ∃ x, xs[i]? = some x := ⟨xs[i], by simp [hi]⟩
    obtain ⟨v, h1, _⟩ := Reps.get' r1 hx
    exact ⟨vs, v, SqL.of (o.h _ _ e1), h1⟩
  · obtain ⟨p, h1, h2⟩ := Reps.get r1 (f2 vs (SqL.of (o.h _ _ e1)))
    exact ⟨p, W', f1.symm, .refl _ _, h1, rex o.b h2⟩
/-- xs[r] = v, the value being there -/
theorem g_setM {r : Nat} {x : α} {v : V} {Q : SS → Hp → Prop} (hd : σ[i]? = some (some (.ref d))) (hr : σ[j]? = some (some (.int r))) (m : LMut K W d xs) (rv : rep K W.B v x) (h : r < xs.length) (k : ∀ W', Md [d] W W' → LMut K W' d (xs.set r x) → Q σ W'.H) : gSub (tVar i) (tVar j) rSetL v σ W.H Q := by
  obtain ⟨vs, e, rr⟩ := m.ex
  exact ⟨_, hd, _, hr, d, vs, _, r, rfl, rfl, e, by rw [Reps.len rr]; exact Evl.ixN_nat h, k (W.put d _ m.b) (md_put m.b) ⟨m.b, _, upd_same, Reps.set rv r rr⟩⟩
end
end B
/-! B: letters' names; three values unpacked; locked dicts that may change -/
namespace B
open PySem L2
open PySem.W (Tup T3 T4 Datum DatumOrd)
open Evl (Ex)
def sp_Letters_names (K : Fg) (C : Addr) : Sp := fun vs H Q _ => ∃ (W : Wd) (v : V) (names : List Str), W.H = H ∧ vs = [v] ∧ LetAt K C names v W ∧ ∀ u W', Grow W W' → rep K W'.B u (sortS names) → Q u W'.H
theorem len_Letters_names {K : Fg} {C : Addr} {vs : List V} {H : Hp} {Q : VK} {E : XK} (h : sp_Letters_names K C vs H Q E) : vs.length = ["self"].length := by
  obtain ⟨W, v, names, _, rfl, _⟩ := h
  rfl
/-- Letters.names: the slots 0 self -/
abbrev n_Letters_names : List Str := ["self"]
def t_Letters_names (K : Fg) (c_Letters : Addr) : TS := (tRet (tCB rSortedDS (tCons (tFld K (tVar 0) "ranks") tNil)))
theorem rd_Letters_names {K : Fg} {C : Addr} {vs : List V} {H : Hp} {Q : VK} {E : XK} (c : LettersC K C) (h : sp_Letters_names K C vs H Q E) : t_Letters_names K C { nx := fun _ H' => Q .non H', rt := Q } (start n_Letters_names vs) H := by
  obtain ⟨W, v, names, rfl, rfl, hl, k⟩ := h
  have al := hl.al
  refine ev_ranks c (σ := [some v]) (ε := pur) (ep_var (i := 0) rfl hl fun W' g => LetAt.s (ε := pur) hl g) W (.start trivial) _ fun u W1 g1 ⟨r, e, dd⟩ => ?_
  subst e
  obtain ⟨a, ks, e, hB, hH, rr⟩ := dd
  cases e
  refine ⟨r, ks, names, rfl, .inl hH, by rw [kreps_keysS rr]; show (ranksOf names |>.map (·.1)).map Sum.inr = _; rw [ranks_keys], by have := al.hi; omega, fun ys p h1 h2 hp => ?_⟩
  rw [sortS_eq h1 (sorted_pw h2)]
  exact k _ (W1.add p _) (g1.pure.trans (W1.grow_add hp)) ⟨p, _, rfl, upd_same, str_reps _⟩
theorem ej_lnames {K : Fg} {CL : Addr} {W : Wd} {σ : SS} {te : TE} {ε : Ef} {names : List Str} (h : EvP ε te σ W (LetAt K CL names)) : EvR ε K (tMeth CL "names" (sp_Letters_names K CL) [] E0 te tNil) σ W (sortS names) :=
  ep_lmeth (R := fun v W => rep K W.B v (sortS names)) h (by decide +kernel) fun v W1 g hl Q k => ⟨W1, v, names, rfl, rfl, hl, fun u W' g' r => k u W' (.and (.start g.i) g') r⟩
section
variable {K : Fg} {W : Wd} {σ : SS} {ε : Ef} {D : Ends} {tz : TS} {t1 t2 t3 : TE}
/-- a, b, c = (x, y, z) -/
theorem q_tup3 {P1 P2 P3 : V → Wd → Prop} {a b c : Nat} (h1 : EvP ε t1 σ W P1) (h2 : EvP ε t2 σ W P2) (h3 : EvP ε t3 σ W P3) (m1 : ∀ v W1 W2, Stp ε W1 W2 → P1 v W1 → P1 v W2) (m2 : ∀ v W1 W2, Stp ε W1 W2 → P2 v W1 → P2 v W2) (m3 : ∀ v W1 W2, Stp ε W1 W2 → P3 v W1 → P3 v W2) (s : ε.I W)
    (k : ∀ v1 v2 v3 W', Stp ε W W' → P1 v1 W' → P2 v2 W' → P3 v3 W' → tz D (((σ.set a (some v1)).set b (some v2)).set c (some v3)) W'.H) : tSeq (tAsg (tTup (tCons t1 (tCons t2 (tCons t3 tNil)))) (gTup K 3 (gCons (gName a) (gCons (gName b) (gCons (gName c) gNil))))) tz D σ W.H :=
  h1 W (.start s) _ fun v1 W1 g1 p1 => h2 W1 g1 _ fun v2 W2 g2 p2 => h3 W2 (g1.trans g2) _ fun v3 W3 g3 p3 => ⟨Evl.sz_of (by show 3 ≤ 100000; decide), fun p hp => by
    have G : Stp ε W3 (W3.add p (.tup [v1, v2, v3])) := Stp.and (.start g3.i) (W3.grow_add hp)
    exact ⟨p, [v1, v2, v3], rfl, SqT.of upd_same, rfl, v1, [v2, v3], rfl, v2, [v3], rfl, v3, [], rfl, rfl, k v1 v2 v3 (W3.add p _) (((g1.trans g2).trans g3).trans G) (m1 _ _ _ G (m1 _ _ _ g3 (m1 _ _ _ g2 p1))) (m2 _ _ _ G (m2 _ _ _ g3 p2)) (m3 _ _ _ G p3)⟩⟩
/-- a, b = (x, y) -/
theorem q_tup2 {P1 P2 : V → Wd → Prop} {a b : Nat} (h1 : EvP ε t1 σ W P1) (h2 : EvP ε t2 σ W P2) (m1 : ∀ v W1 W2, Stp ε W1 W2 → P1 v W1 → P1 v W2) (m2 : ∀ v W1 W2, Stp ε W1 W2 → P2 v W1 → P2 v W2) (s : ε.I W)
    (k : ∀ v1 v2 W', Stp ε W W' → P1 v1 W' → P2 v2 W' → tz D ((σ.set a (some v1)).set b (some v2)) W'.H) : tSeq (tAsg (tTup (tCons t1 (tCons t2 tNil))) (gPair K a b)) tz D σ W.H :=
  h1 W (.start s) _ fun v1 W1 g1 p1 => h2 W1 g1 _ fun v2 W2 g2 p2 => ⟨Evl.sz_of (by show 2 ≤ 100000; decide), fun p hp => by
    have G : Stp ε W2 (W2.add p (.tup [v1, v2])) := Stp.and (.start g2.i) (W2.grow_add hp)
    exact ⟨p, [v1, v2], rfl, SqT.of upd_same, rfl, v1, [v2], rfl, v2, [], rfl, rfl, k v1 v2 (W2.add p _) ((g1.trans g2).trans G) (m1 _ _ _ G (m1 _ _ _ g2 p1)) (m2 _ _ _ G p2)⟩⟩
end
section
variable {α : Type} [Py α] {K : Fg} {W : Wd} {σ : SS} {t : TE}
/-- locked, and free again behind it: what may change otherwise -/
theorem ev_lockM {d : Addr} {ks : List (Key × V)} {x : α} (hd : W.H d = some (.dK ks)) (hb : W.B d = none) (h : ∀ WL, Lk W WL d ks → Md [d] W WL → EvR pur K t σ WL x) : EvR pur K (tLockE t) σ W x := fun W1 g1' Q k => by
  have g1 := g1'.pure
  have m1 := g1.mut (S := []) (by simp) hd hb
  refine ⟨d, _, m1.1, trivial, fun od => ?_⟩
  let WL := W1.put d (.frz od (.dK ks)) m1.2
  have ml : Md [d] W1 WL := md_put m1.2
  have lk : Lk W WL d ks := ⟨g1.b, ⟨od, upd_same⟩, fun a o q e => by
    show upd W1.H d _ a = some o
    rw [upd_ne q]; exact g1.h a o e⟩
  refine h WL lk ((Grow.s g1).trans ml) WL (.start trivial) _ fun v W2 g2' r => ?_
  have g2 := g2'.pure
  have h2 : W2.H d = some (.frz od (.dK ks)) := g2.h _ _ upd_same
  refine ⟨h2, ?_⟩
  have hB : W2.B d = none := (g2.m d ⟨.frz od (.dK ks), upd_same, fun _ z => by cases z⟩).trans m1.2
  have M : Md [d] W2 (W2.put d (.dK ks) hB) := md_put hB
  have M1 : Md [d] W1 (W2.put d (.dK ks) hB) := (ml.trans (Grow.s g2)).trans M
  refine k v (W2.put d (.dK ks) hB) (.of ⟨M1.b, M1.l, fun a o _ e => ?_, M1.m, M1.d, M1.n⟩) r
  show upd W2.H d (.dK ks) a = some o
  by_cases q : a = d
  · subst q; rw [m1.1] at e; cases e; exact upd_same
  · rw [upd_ne q]
    exact g2.h a o (by show upd W1.H d _ a = some o; rw [upd_ne q]; exact e)
end
theorem atI_end {α : Type} {xs : List α} (h : xs ≠ []) : ∃ x, x ∈ xs ∧ atI xs (-1) = some x := by
  refine ⟨xs.getLast h, List.getLast_mem h, ?_⟩
  have := atI_last xs.dropLast (xs.getLast h)
  rwa [List.dropLast_concat_getLast h] at this
theorem atI_first {α : Type} {xs : List α} (h : xs ≠ []) : ∃ x, x ∈ xs ∧ atI xs 0 = some x := by
  cases xs with
  | nil => exact absurd rfl h
  | cons x r => exact ⟨x, List.mem_cons_self, atI_nat (j := 0) rfl⟩
end B
/-! B: drawn numbers of which something is known -/
namespace B
open PySem L2
open PySem.W (Tup T3 T4 Datum DatumOrd)
open Evl (Ex)
section
variable {K : Fg} {W : Wd} {σ : SS} {te ta tb : TE} {i : Nat} {p c : Addr}
theorem ex_draw {n : Int} (h1 : σ[i]? = some (some (.ref p))) (hn : EvR (drw p c) K te σ W n) (h0 : 0 < n) (h2 : n < 1073741824) : EvX (drw p c) K (tCall (sp__law_draw K) [] E0 (tCons (tVar i) (tCons te tNil))) σ W (fun r : Int => 0 ≤ r ∧ r < n) := fun W1 g1 Q k =>
  ev_draw h1 hn h0 h2 W1 g1 Q fun v W2 g2 ⟨r, e, h⟩ => k v W2 g2 ⟨r, h, e⟩
theorem ex_drawX {P : Int → Prop} (h1 : σ[i]? = some (some (.ref p))) (hn : EvX (drw p c) K te σ W P) (hP : ∀ n, P n → 0 < n ∧ n < 1073741824) : EvX (drw p c) K (tCall (sp__law_draw K) [] E0 (tCons (tVar i) (tCons te tNil))) σ W (fun r : Int => ∃ n, P n ∧ 0 ≤ r ∧ r < n) := fun W1 g1 Q k =>
  ⟨_, h1, hn W1 g1 _ fun u W2 g2 ⟨n, pn, r⟩ => ⟨W2, p, c, n, rfl, by rw [show u = _ from r]; rfl, (show St W2 p c from g2.i), (hP n pn).1, (hP n pn).2, fun r W3 a b g s => k _ W3 (g2.trans ⟨g, s⟩) ⟨r, ⟨n, pn, a, b⟩, rfl⟩⟩⟩
/-- an item of a list of which something is known, at a drawn place -/
theorem ex_ixX {α : Type} [Py α] {ε : Ef} {n : Nat} {P : α → Prop} (h : EvX ε K ta σ W (fun xs : List α => xs.length = n ∧ ∀ x ∈ xs, P x)) (hi : EvX ε K tb σ W (fun r : Int => 0 ≤ r ∧ r < n)) : EvX ε K (tOp (rIxL K) ta tb) σ W P :=
  ex_op h hi fun xs r ⟨hl, hp⟩ ⟨h0, h1⟩ => by
    obtain ⟨j, hj⟩ : ∃ j : Nat, r = (j : Int) := ⟨r.toNat, by omega⟩
    have hjl : j < xs.length := by omega
    exact ⟨xs[j], hp _ (List.getElem_mem _), ro_ixL (K := K) (x := xs[j]) (i := r) (by rw [hj]; exact atI_nat (List.getElem?_eq_getElem hjl))⟩
theorem ex_add {ε : Ef} {m : Int} {P : Int → Prop} (h : EvX ε K te σ W P) : EvX ε K (tOp oAdd (tC (.int m)) te) σ W (fun r : Int => ∃ n, P n ∧ r = m + n) :=
  ex_op (P := fun x : Int => x = m) (ex_of ev_int rfl) h fun x y hx hy => ⟨m + y, ⟨y, hy, rfl⟩, by rw [hx]; exact ro_I0⟩
theorem ev_lenQ {ε : Ef} {a : Addr} {ns : List Int} (hS : SqL K W.B a (ns.map V.int)) (hv : σ[i]? = some (some (.ref a))) : EvR ε K (tCB (rLen K) (tCons (tVar i) tNil)) σ W (ns.length : Int) := fun W1 g1 Q k =>
  ⟨_, hv, a, ns.map V.int, rfl, .inl (W1.sub.l ((exExt g1.md.b).l hS)), by rw [List.length_map]; exact k _ W1 g1.rf rfl⟩
theorem ev_lenMs {α : Type} [Py α] {ε : Ef} {d : Addr} {xs : List α} (hd : σ[i]? = some (some (.ref d))) (m : ∀ W', Stp ε W W' → LMut K W' d xs) : EvR ε K (tCB (rLen K) (tCons (tVar i) tNil)) σ W (xs.length : Int) := fun W1 g1 Q k => by
  obtain ⟨vs, e, r⟩ := (m W1 g1).ex
  exact ⟨_, hd, d, vs, rfl, .inl (SqL.of e), by rw [Reps.len r]; exact k _ W1 g1.rf rfl⟩
/-- a number from 1 on below one of some -/
theorem ex_add1 {n : Int} {P : Int → Prop} (h1 : σ[i]? = some (some (.ref p))) (hn : EvX (drw p c) K te σ W P) (hP : ∀ m, P m → 0 < m ∧ m ≤ n) (h2 : n < 1073741824) : EvX (drw p c) K (tOp oAdd (tC (.int 1)) (tCall (sp__law_draw K) [] E0 (tCons (tVar i) (tCons te tNil)))) σ W (fun r : Int => 1 ≤ r ∧ r ≤ n) :=
  (ex_add (m := 1) (ex_drawX h1 hn fun m hm => by have := hP m hm; omega)).imp fun r ⟨m, ⟨k, hk, h0, h1⟩, e⟩ => by have := hP k hk; omega
end
/-- a drawn way -/
def EvTX (ε : Ef) (tt : TT) (σ : SS) (W : Wd) (P : Bool → Prop) : Prop := ∀ W1, Stp ε W W1 → ∀ Q : Bool → Hp → Prop, (∀ b W2, P b → Stp ε W1 W2 → Q b W2.H) → tt σ W1.H Q
theorem etx_and {ε : Ef} {t u : TT} {σ : SS} {W : Wd} {a : Bool} (h1 : EvT ε t σ W a) (h2 : EvTQ ε u σ W) : EvTX ε (tAnd t u) σ W (fun b => b = true → a = true) := fun W1 g1 Q k => h1 W1 g1 _ fun W2 g2 => by
  cases a with
  | false => exact k false W2 (fun z => by cases z) g2
  | true => exact h2 W2 (g1.trans g2) _ fun b W3 g3 => k b W3 (fun _ => rfl) (g2.trans g3)
theorem ro_notN0 {K : Fg} : RO K oNotN (Raw.mk V.non) (Raw.mk V.non) false := ro_val fun v u W1 rv ru Q k => ⟨ru, k _ (by rw [show v = V.non from rv]; rfl)⟩
/-- a, b = x, y, laid open -/
theorem q_parR {i j : Nat} {ta tb : TE} {tz : TS} {D : Ends} {σ : SS} {H : Hp} (h : ta σ H fun v H1 => tb σ H1 fun u H2 => ∃ x y, [v, u] = [x, y] ∧ tz D ((σ.set i (some x)).set j (some y)) H2) : tSeq (tPar i j (tCons ta (tCons tb tNil))) tz D σ H := h
theorem q_parR3 {i j l : Nat} {ta tb tc : TE} {tz : TS} {D : Ends} {σ : SS} {H : Hp} (h : ta σ H fun v H1 => tb σ H1 fun u H2 => tc σ H2 fun w H3 => ∃ x y z, [v, u, w] = [x, y, z] ∧ tz D (((σ.set i (some x)).set j (some y)).set l (some z)) H3) : tSeq (tPar3 i j l (tCons ta (tCons tb (tCons tc tNil)))) tz D σ H := h
/-! ### things told apart -/
section
variable {W W' : Wd} {f : Things} {K : Fg} {CL CJ : Addr} {names : List Str} {x i d i' : Addr} {n m : Nat} {s s' : Ins × Lots} {g k : Nat}
/-- jars have changed -/
theorem All.jar (h : All W f) (e : f g k = some (jarT K CL CJ names x i d n s)) (M : Md [x, i, d] W W') (r : JarAt K CL CJ W' x i' d names m s') (nw : New W i i') : All W' (thput f g k (jarT K CL CJ names x i' d m s')) :=
  h.chg e M (fun a ha => ha) r fun a ha => by
    simp only [jarT, List.mem_cons, List.not_mem_nil, or_false] at ha ⊢
    rcases ha with rfl | rfl | rfl
    · exact .inl (.inl rfl)
    · rcases nw with rfl | z
      · exact .inl (.inr (.inl rfl))
      · exact .inr z
    · exact .inl (.inr (.inr rfl))
theorem All.tab {κ α : Type} [DecidableEq κ] [PyKey κ] [Py α] {t : Addr} {T T' : List (κ × α)} (h : All W f) (e : f g k = some (tabT K t T)) (M : Md [t] W W') (r : DMut K W' t T') : All W' (thput f g k (tabT K t T')) :=
  h.chg e M (fun a ha => ha) r fun a ha => .inl ha
theorem All.lst {α : Type} [Py α] {t : Addr} {xs ys : List α} (h : All W f) (e : f g k = some (lstT K t xs)) (M : Md [t] W W') (r : LMut K W' t ys) : All W' (thput f g k (lstT K t ys)) :=
  h.chg e M (fun a ha => ha) r fun a ha => .inl ha
/-- another thing in its place -/
theorem All.other {q q' : Thing} (h : All W f) (e : f g k = some q) (M : Grow W W') (r : q'.P W') (hn : ∀ a ∈ q'.as, W.H a = none) : All W' (thput f g k q') :=
  h.chg e M (S := []) (fun a ha => by cases ha) r fun a ha => .inr (hn a ha)
end
/-- v = f(x, y) stored somewhere, laid open -/
theorem s_asgG {ta tb : TE} {sp : Sp} {g : TG} {D : Ends} {σ : SS} {H : Hp} (h : ta σ H fun v H1 => tb σ H1 fun u H2 => sp [v, u] H2 (fun w H3 => g w σ H3 D.nx) E0) : tAsg (tCall sp [] E0 (tCons ta (tCons tb tNil))) g D σ H := h
/-- a statement, whatever follows -/
theorem seqG {tu tz : TS} {D : Ends} {σ : SS} {H : Hp} (R : SS → Hp → Prop) (h1 : ∀ Z : SS → Hp → Prop, (∀ σ' H', R σ' H' → Z σ' H') → tu { D with nx := Z } σ H) (h2 : ∀ σ' H', R σ' H' → tz D σ' H') : tSeq tu tz D σ H := h1 (tz D) h2
section
variable {W : Wd} {f : Things} {K : Fg} {CL CJ : Addr} {names : List Str} {x i d y j e p c : Addr} {n m : Nat} {s t : Ins × Lots} {b b' : Int} {g k g2 k2 : Nat} {σ : SS} {D : Ends} {te ta tb : TE} {name : Str}
theorem dj_feed {z : Nat} (A : All W f) (ej : f g k = some (jarT K CL CJ names x i d n s)) (ok : JOk names n b s) (hr : EvR pur K te σ W (Raw.mk (.ref x))) (ha : EvR pur K ta σ W name) (hb : EvR pur K tb σ W (z : Int)) (hn : name ∈ names) (h1 : 1 ≤ z) (h2 : z ≤ 1000000000)
    (kk : ∀ W' i', On W W' → All W' (thput f g k (jarT K CL CJ names x i' d n (Nat.repeat (one n name) z s))) → D.nx σ W'.H) : tDrop (tMethN CJ "feed" 1 1 (sp_Jars_feed K CL CJ) (fun vs zs => vs ++ perm [0] (zs ++ [])) E0 te (tCons ta tNil) (tCons tb tNil)) D σ W.H := by
  refine hr W (.start trivial) _ fun v W1 g1 ev => ?_
  obtain ⟨dx, l, h, _⟩ := ((A.gr g1.pure).get ej : JarAt K CL CJ W1 x i d names n s).ex
  rw [show v = V.ref x from ev]
  refine ⟨x, dx, _, rfl, h, jf_no (by decide +kernel) (by decide +kernel) (by decide +kernel) (by decide +kernel), ha W1 g1 _ fun v W2 g2 er => hb W2 (g1.trans g2) _ fun u W3 g3 eu => ⟨rfl, rfl, ?_⟩⟩
  have A3 := A.gr ((g1.trans g2).trans g3).pure
  exact ⟨W3, x, i, d, names, n, s, .str name, .int z, rfl, by rw [show v = V.str name from er, show u = V.int z from eu]; rfl, A3.get ej, .inl ⟨b, name, z, rfl, rfl, ok, hn, h1, h2, fun W' i' md r' nw => kk W' i' (((g1.trans g2).trans g3).on.trans md.on) (A3.jar ej md r' nw)⟩⟩
end
end B
/-! B: methods called within a try -/
namespace B
open PySem PySem.Spec PyProof.Rows L2
/-- o.m(e, .., k = v, ..) within a try -/
def tMethNS (C : Addr) (m : Str) (n j : Nat) (sp : Sp) (gV : List V → List V → List V) (E : L2.St → XK) (to : TE) (t tk : TA) : TE := fun σ H Q => to σ H fun x H1 => ∃ a dx fs, x = .ref a ∧ H1 a = some (.ins C dx fs) ∧ fs.lookup m = none ∧
  t σ H1 fun vs H2 => tk σ H2 fun zs H3 => vs.length = n ∧ zs.length = j ∧ sp (gV (x :: vs) zs) H3 Q (E σ)
/-- o.m(e, ..) within a try -/
def tMethTS (C : Addr) (m : Str) (sp : Sp) (E : L2.St → XK) (to : TE) (t : TA) : TE := fun σ H Q => to σ H fun x H1 => ∃ a dx fs, x = .ref a ∧ H1 a = some (.ins C dx fs) ∧ fs.lookup m = none ∧ t σ H1 fun vs H2 => sp (x :: vs) H2 Q (E σ)
section
variable {X : Cx} {CX : CXT} {k n j : Nat} {f C : Addr} {fd : FuncData} {ps ks : List Str} {sp : Sp} {E : L2.St → XK} {o e : Expr} {es : List Expr} {to : TE} {t tk : TA} {kws : List Keyword} {m : Str} {apos pos : Pos} {gV : List V → List V → List V}
theorem run_fnNS {g : List Value → List Value → List Value} {pins : List (Addr × Obj)} {σ : L2.St} {H : Hp} {s : Shared} {Q : VK} {us ws : List Value} {vs zs : List V} (F : FnOk X.prog X.w X.K X.mg X.base CX k f fd ps sp) (hr : Room k X.A) (hb : KBn X.K fd ps n ks g gV) (hx : PassesAt CX X σ (E σ))
    (I : Inv X pins σ H s) (r : Vals vs us) (rz : Vals zs ws) (l1 : vs.length = n) (l2 : zs.length = ks.length) (h : sp (gV vs zs) H Q (E σ)) : wpAny (model X.prog X.w) X.A (call (.ref f) us (ks.zip ws)) (EP X pins σ Q) X.xe s := by
  have r2 := hb.rel r rz
  refine wpAny_call (codeAny_mono (F.run X.A X.stack s H ⟨us, ks.zip ws⟩ (g us ws) (gV vs zs) Q (E σ) hr I.env0 (hb.to s us ws I.kIn (r.length.symm.trans l1) (rz.length.symm.trans l2)) r2 h) fun r s' hq => ?_)
  cases r with
  | error e => exact hx pins H s e s' I hq
  | ok fl =>
    cases fl with
    | ret u => exact I.after hq
    | next => exact False.elim hq
    | brk => exact False.elim hq
    | cont => exact False.elim hq
theorem pe_methNS {pl : Sem Bool} (he : PE X o to) (c : Cls X.K C) (hm : Meth X.K C m f) (F : FnOk X.prog X.w X.K X.mg X.base CX k f fd ps sp) (hr : Room k X.A) (hb : ∃ g, KBn X.K fd ps (n + 1) ks g gV) (hx : ∀ σ, PassesAt CX X σ (E σ)) (ha : PA X (e :: es) t)
    (hkw : PK X kws tk) (hall : (backToKw pos (keywordEach kws X.env)).all (·.1.isSome) = true := by rfl) (hks : (backToKw pos (keywordEach kws X.env)).filterMap (·.1) = ks := by rfl)
    (hn : j = ks.length := by rfl) (hpl : ((backTo pos (starEach (e :: es) X.env)).any (·.1) || (backToKw pos (keywordEach kws X.env)).any (·.1.isNone)) = false := by rfl) (hs : starEach (e :: es) X.env = (false, eval e X.env) :: starEach es X.env := by rfl)
    (ht : eval (.Call (.Attribute o m apos) (e :: es) kws pos) X.env = (eval o X.env >>= fun ov => standAt apos.atName >>= fun _ => holding [ov] (getMethod ov m pl) >>= fun fx => callWith pos fx.1 fx.2 (backTo pos (starEach (e :: es) X.env)) (backToKw pos (keywordEach kws X.env))) := by rfl) :
    PE X (.Call (.Attribute o m apos) (e :: es) kws pos) (tMethNS C m n j sp gV E to t tk) := by
  subst hn
  obtain ⟨g, hb⟩ := hb
  refine ⟨fun pins s σ H Q I h => PySem.W.methodCall_KW (pl := pl) (thn (he.run pins s σ H _ I h) fun u s1 ⟨x, H1, I1, rx, a, dx, fs, ex, ea, lk, q⟩ => ?_) ht⟩
  subst ex
  obtain rfl : u = Value.ref a := rx
  refine getmeth_ok I1 ea c hm lk (PySem.W.callWith_KW (first := [.ref a]) (h₀ := X.base) I.ok.mod.kin hm.kp hall (thn (ha.run pos pins s1 σ H1 _ I1 q) fun us s2 ⟨vs, H2, I2, r, q2⟩ => thn (hkw.run pos pins s2 σ H2 _ I2 q2) fun ws s3 ⟨zs, H3, I3, rz, l1, l2, q3⟩ => ⟨I3.kIn, ?_⟩) hpl hs)
  rw [hks]
  exact run_fnNS (vs := .ref a :: vs) F hr hb (hx σ) I3 (.cons rfl r) rz (by rw [List.length_cons, l1]) l2 q3
theorem pe_methTS {pl : Sem Bool} (he : PE X o to) (c : Cls X.K C) (hm : Meth X.K C m f) (F : FnOk X.prog X.w X.K X.mg X.base CX k f fd ps sp) (hr : Room k X.A) (hb : Binds X.K fd ps []) (hx : ∀ σ, PassesAt CX X σ (E σ)) (ha : PA X (e :: es) t)
    (hst : starEach (e :: es) X.env = (false, eval e X.env) :: starEach es X.env := by rfl) (hpl : (backTo pos (starEach es X.env)).any (·.1) = false := by rfl)
    (ht : eval (.Call (.Attribute o m apos) (e :: es) [] pos) X.env = (do
      let ov ← eval o X.env
      standAt apos.atName
      let (f, first) ← holding [ov] (getMethod ov m pl)
      callWith pos f first (backTo pos (starEach (e :: es) X.env)) (backToKw pos (keywordEach [] X.env))) := by rfl) :
    PE X (.Call (.Attribute o m apos) (e :: es) [] pos) (tMethTS C m sp E to t) := by
  refine ⟨fun pins s σ H Q I h => ?_⟩
  refine PySem.W.methodCall_KW (pl := pl) (thn (he.run pins s σ H _ I h) fun u s1 ⟨x, H1, I1, rx, a, dx, fs, ex, ea, l, q⟩ => ?_) ht
  subst ex
  obtain rfl : u = Value.ref a := rx
  refine getmeth_ok I1 ea c hm l ?_
  refine PySem.W.callWith_K (first := [.ref a]) (h₀ := X.base) I.ok.mod.kin hm.kp (thn (ha.run pos pins s1 σ H1 _ I1 q) fun us s2 ⟨vs, H2, I2, r, q2⟩ => ⟨I2.kIn, ?_⟩) hst hpl
  exact run_fnS (us := .ref a :: us) (vs := .ref a :: vs) F hr hb (hx σ) I2 (.cons rfl r) q2
end
end B
/-! B: texts cut, joined, in great letters; things of any kind that are, or hold, texts -/
namespace B
open PySem L2
open PySem.W (Tup T3 T4 Datum DatumOrd)
open Evl (Ex)
/-- a text of so many signs that can be shown -/
structure TxB (b : Nat) (s : Str) : Prop where
  ln : s.length ≤ b
  ok : ∀ c ∈ s.cps.toList, c < 16 ^ 8
theorem TxB.up {a b : Nat} {s : Str} (h : TxB a s) (l : a ≤ b) : TxB b s := ⟨Nat.le_trans h.ln l, h.ok⟩
theorem len_app (x y : Str) : (x ++ y).length = x.length + y.length := by
  show (x.cps ++ y.cps).size = x.cps.size + y.cps.size
  rw [Array.size_append]
theorem TxB.app {a b : Nat} {x y : Str} (h : TxB a x) (h' : TxB b y) : TxB (a + b) (x ++ y) := ⟨by rw [len_app]; exact Nat.add_le_add h.ln h'.ln, fun c hc => by
  have hc : c ∈ (x.cps ++ y.cps).toList := hc
  rw [Array.toList_append] at hc
  rcases List.mem_append.mp hc with h1 | h1
  · exact h.ok c h1
  · exact h'.ok c h1⟩
theorem TxB.cut {b : Nat} {s : Str} (h : TxB b s) (lo hi : Option Int) : TxB b (cutS s lo hi) := by
  have e : (cutS s lo hi).cps.toList = (s.cps.toList.drop (HT.sIx s.length 0 lo)).take (HT.sIx s.length s.length hi - HT.sIx s.length 0 lo) := by unfold cutS; simp
  refine ⟨?_, fun c hc => ?_⟩
  · have h1 : (cutS s lo hi).length = (cutS s lo hi).cps.toList.length := by rw [Array.length_toList]; rfl
    rw [h1, e, List.length_take, List.length_drop, Array.length_toList]
    have : s.cps.size = s.length := rfl
    have := h.ln
    omega
  · rw [e] at hc
    exact h.ok c (List.mem_of_mem_drop (List.mem_of_mem_take hc))
theorem txb_word {s : Str} (h : IsWord s) : TxB 6 s := ⟨h.hi, fun c hc => by
  have := h.ok c hc
  have : (122 : Nat) < 16 ^ 8 := by decide
  omega⟩
theorem txb_sign {c : Nat} (h : c < 16 ^ 8) : TxB 1 (⟨#[c]⟩ : Str) := ⟨Nat.le_refl 1, fun d hd => by
  have hd : d ∈ [c] := hd
  rw [List.mem_singleton.mp hd]; exact h⟩
theorem up26 : ∀ k ∈ List.range 26, Unicode.upperOf (97 + k) = [65 + k] := by decide +kernel
theorem up_sign {c : Nat} (h1 : 97 ≤ c) (h2 : c ≤ 122) : Unicode.upperOf c = [c - 32] := by
  have := up26 (c - 97) (List.mem_range.mpr (by omega))
  rw [show 97 + (c - 97) = c by omega, show 65 + (c - 97) = c - 32 by omega] at this
  exact this
theorem txb_upper {s : Str} (h : IsWord s) : TxB 18 (Txt.upper s) := ⟨by have := PyProof.Rows.len_upper s; have := h.hi; omega, fun d hd => by
  have hd : d ∈ (placed s fun _ c => Unicode.upperOf c).toList := hd
  unfold placed at hd
  rw [Array.mem_toList_iff, Array.mem_flatten] at hd
  obtain ⟨a, ha, hda⟩ := hd
  obtain ⟨i, hi, rfl⟩ := Array.mem_mapIdx.mp ha
  have hc := h.ok s.cps[i] (by rw [Array.mem_toList_iff]; exact Array.getElem_mem hi)
  have hda : d ∈ (Unicode.upperOf s.cps[i]).toArray := hda
  rw [up_sign hc.1 hc.2] at hda
  have : d = s.cps[i] - 32 := by simpa using hda
  have : (122 : Nat) < 16 ^ 8 := by decide
  omega⟩
section
variable {K : Fg} {W : Wd} {σ : SS} {ε : Ef} {te : TE}
theorem ro_catS {x y : Str} (h : x.length + y.length ≤ 100000) : RO K oCatS x y (x ++ y) := ro_val fun v u W2 rv ru Q k => ⟨x, y, rv, ru, Evl.sz_of h, k _ rfl⟩
theorem ev_slS {tl th : TO} {s : Str} {lo hi : Option Int} (h : EvR ε K te σ W s) (h1 : EvO ε tl σ W lo) (h2 : EvO ε th σ W hi) (hl : s.length ≤ 100000) : EvR ε K (tSl rSlS te tl th) σ W (cutS s lo hi) := fun W1 g1 Q k =>
  h W1 g1 _ fun v W2 g2 rx => h1 W2 (g1.trans g2) _ fun W3 g3 => h2 W3 ((g1.trans g2).trans g3) _ fun W4 g4 => ⟨s, rx, Evl.sz_of hl, k _ W4 ((g2.trans g3).trans g4) rfl⟩
theorem ev_upper {s : Str} (h : EvR ε K te σ W s) (hl : s.length ≤ 1000) : EvR ε K (tM0 rUpper te) σ W (Txt.upper s) := fun W1 g1 Q k =>
  h W1 g1 _ fun v W2 g2 rx => ⟨⟨s, rx⟩, s, rx, rfl, by omega, k _ W2 g2 rfl⟩
end
theorem str_nd : ∀ ns : List Str, PyData.hasDictAll (ns.map PyData.str) = false
  | [] => rfl
  | s :: ns => by simp only [List.map_cons, PyData.hasDictAll, PyData.hasDict, str_nd ns]; rfl
/-- a thing of any kind that is, or holds, texts -/
inductive OL where
  | int (n : Int) | bl (b : Bool) | non | str (s : Str) | tup (ns : List Str) | lst (ns : List Str) | dct
def olRep (K : Fg) (H : Hp) (v : V) : OL → Prop
  | .int n => rep K H v n
  | .bl b => rep K H v b
  | .non => rep K H v ()
  | .str s => rep K H v s
  | .tup n => rep K H v (Tup.mk n)
  | .lst n => rep K H v n
  | .dct => rep K H v (⟨[]⟩ : Dict Int Int)
theorem olRep_mono {K : Fg} {H H' : Hp} {v : V} (e : Ext H H') : ∀ {o : OL}, olRep K H v o → olRep K H' v o
  | .int n, h => Py.mono (α := Int) e h
  | .bl b, h => Py.mono (α := Bool) e h
  | .non, h => Py.mono (α := Unit) e h
  | .str s, h => Py.mono (α := Str) e h
  | .tup n, h => Py.mono (α := Tup Str) e h
  | .lst n, h => Py.mono (α := List Str) e h
  | .dct, h => Py.mono (α := Dict Int Int) e h
instance : Py OL := ⟨olRep, fun e h => olRep_mono e h⟩
def OL.cls : OL → String
  | .int _ => "int" | .bl _ => "bool" | .non => "NoneType" | .str _ => "str" | .tup _ => "tuple" | .lst _ => "list" | .dct => "dict"
theorem ty_ol {K : Fg} (W1 : Wd) (v : V) : ∀ (o : OL), rep K W1.B v o → TyX K W1.H v (.type o.cls)
  | .int n, h => ty_int W1 v h
  | .bl b, h => ty_bl W1 v h
  | .non, h => ty_non W1 v h
  | .str s, h => ty_str W1 v h
  | .tup n, h => ty_tup W1 v h
  | .lst n, h => ty_lst W1 v h
  | .dct, h => ty_dct W1 v h
def OL.toD : OL → PyData
  | .int n => .int n | .bl b => .bool b | .non => .none | .str s => .str s | .tup ns => .tuple (ns.map .str) | .lst ns => .list (ns.map .str) | .dct => .dict []
theorem OL.dp {K : Fg} {W1 : Wd} {v : V} : ∀ {o : OL}, rep K W1.B v o → DpD K W1.H v o.toD
  | .int n, h => .pl (dp_ext W1.sub _ _ (PyD.dp (α := Int) h)) (by simp [OL.toD, Datum.toD, PyData.hasDict])
  | .bl b, h => .pl (dp_ext W1.sub _ _ (PyD.dp (α := Bool) h)) (by simp [OL.toD, Datum.toD, PyData.hasDict])
  | .non, h => .pl (dp_ext W1.sub _ _ (PyD.dp (α := Unit) (x := ()) h)) (by simp [OL.toD, Datum.toD, PyData.hasDict])
  | .str s, h => .pl (dp_ext W1.sub _ _ (PyD.dp (α := Str) h)) (by simp [OL.toD, Datum.toD, PyData.hasDict])
  | .tup n, h => .pl (dp_ext W1.sub _ _ (PyD.dp (α := Tup Str) h)) (str_nd n)
  | .lst n, h => .pl (dp_ext W1.sub _ _ (PyD.dp (α := List Str) h)) (str_nd n)
  | .dct, ⟨a, ks, e, h1, h2⟩ => by
    cases h2
    subst e
    have := DpD.dc (K := K) (H := W1.H) (a := a) (kv := []) (W1.sub.rd h1)
    exact this
section
variable {K : Fg} {W : Wd} {σ : SS} {ε : Ef} {te : TE}
theorem ev_lI {n : Int} (h : EvR ε K te σ W n) : EvR ε K te σ W (OL.int n) := h
theorem ev_lB {n : Bool} (h : EvR ε K te σ W n) : EvR ε K te σ W (OL.bl n) := h
theorem ev_lN (h : EvR ε K te σ W ()) : EvR ε K te σ W OL.non := h
theorem ev_lS {n : Str} (h : EvR ε K te σ W n) : EvR ε K te σ W (OL.str n) := h
theorem ev_lT {n : List Str} (h : EvR ε K te σ W (Tup.mk n)) : EvR ε K te σ W (OL.tup n) := h
theorem ev_lL {n : List Str} (h : EvR ε K te σ W n) : EvR ε K te σ W (OL.lst n) := h
theorem ev_lD (h : EvD ε K te σ W (⟨[]⟩ : Dict Int Int)) : EvR ε K te σ W OL.dct := h.rep
def OL.inB (names : List Str) : OL → Bool
  | .str s => decide (s ∈ names)
  | _ => false
/-- x not in names -/
theorem ro_ninX {o : OL} {names : List Str} : RO K (rNinX K) o names (!o.inB names) := ro_val fun v u W1 rv ru Q k => by
  have fl : o.inB names = false → NotS K W1.H v → rNinX K v u W1.H Q := fun e hn => by
    obtain ⟨a, vs, e1, s, r⟩ := ru
    refine .inr ⟨hn, a, names, e1, by rw [← reps_str r]; exact SqL.of (W1.sub.el s), ?_⟩
    have := k (.bl true) (by show V.bl true = V.bl (!o.inB names); rw [e]; rfl)
    exact this
  cases o with
  | str s =>
    have rv : v = V.str s := rv
    exact .inl ⟨Str, inferInstance, inferInstance, s, names, PyD.dp (α := Str) (rep_h (W := W1) rv), PyD.dp (rep_h ru), by decide, k _ rfl⟩
  | int n => exact fl rfl (.inr (.inr (.inl ⟨n, rv⟩)))
  | bl b => exact fl rfl (.inr (.inl ⟨b, rv⟩))
  | non => exact fl rfl (.inl rv)
  | lst ns =>
    obtain ⟨a, vs, e1, s, r⟩ := id rv
    exact fl rfl (.inr (.inr (.inr (.inl ⟨a, vs, e1, SqL.of (W1.sub.el s)⟩))))
  | tup ns =>
    obtain ⟨a, vs, e1, s, r⟩ := id rv
    exact fl rfl (.inr (.inr (.inr (.inr (.inl ⟨a, vs, e1, SqT.of (W1.sub.et s)⟩)))))
  | dct =>
    obtain ⟨a, ks, e1, s, r⟩ := id rv
    exact fl rfl (.inr (.inr (.inr (.inr (.inr ⟨a, ks, e1, W1.sub.rd s⟩)))))
end
/-- what can be shown, of these -/
def OL.ok : OL → Prop
  | .int n => n.natAbs.log2 < 1920
  | .str s => TxB 100 s
  | .tup ns => ns.length ≤ 2 ∧ ∀ s ∈ ns, IsWord s
  | .lst ns => ns.length ≤ 2 ∧ ∀ s ∈ ns, IsWord s
  | _ => True
theorem words_all : ∀ {ns : List Str}, (∀ s ∈ ns, IsWord s) → ∀ d ∈ ns.map PyData.str, ShowOk 1921 d := fun h d hd => by
  obtain ⟨s, hs, rfl⟩ := List.mem_map.mp hd
  exact show_word (h s hs)
theorem OL.shows : ∀ {o : OL}, o.ok → o.toD.showable = true ∧ o.toD.depth ≤ 40 ∧ o.toD.shown.length ≤ 10000
  | .int n, h => ⟨(show_int h).sh, by simp [OL.toD, PyData.depth], Nat.le_trans (show_int h).ln (by decide)⟩
  | .bl b, h => ⟨by simp [OL.toD, PyData.showable], by simp [OL.toD, PyData.depth], by
    cases b
    · have : (OL.toD (.bl false)).shown.length = 5 := by decide +kernel
      omega
    · have : (OL.toD (.bl true)).shown.length = 4 := by decide +kernel
      omega⟩
  | .non, h => ⟨by simp [OL.toD, PyData.showable], by simp [OL.toD, PyData.depth], Nat.le_trans show_none.ln (by decide)⟩
  | .str s, h => ⟨(show_str h.ok).sh, by simp [OL.toD, PyData.depth], Nat.le_trans (show_str h.ok).ln (by have := h.ln; omega)⟩
  | .tup ns, h => by
    obtain ⟨a1, a2, a3, a4⟩ := show_all (b := 1921) _ (words_all h.2)
    refine ⟨by simp only [OL.toD, PyData.showable]; exact a1, ?_, ?_⟩
    · have : PyData.depthAll (ns.map PyData.str) ≤ 0 := by
        clear a1 a2 a3 a4 h
        induction ns with
        | nil => simp [PyData.depthAll]
        | cons s ns ih => simp only [List.map_cons, PyData.depthAll, PyData.depth]; omega
      simp only [OL.toD, PyData.depth]; omega
    · have := tupleText_len_le (PyData.shownAll (ns.map PyData.str))
      simp only [OL.toD, PyData.shown]
      rw [a4, List.length_map] at this
      rw [List.length_map] at a3
      have := h.1
      omega
  | .lst ns, h => by
    obtain ⟨a1, a2, a3, a4⟩ := show_all (b := 1921) _ (words_all h.2)
    refine ⟨by simp only [OL.toD, PyData.showable]; exact a1, ?_, ?_⟩
    · have : PyData.depthAll (ns.map PyData.str) ≤ 0 := by
        clear a1 a2 a3 a4 h
        induction ns with
        | nil => simp [PyData.depthAll]
        | cons s ns ih => simp only [List.map_cons, PyData.depthAll, PyData.depth]; omega
      simp only [OL.toD, PyData.depth]; omega
    · have := listText_len_le (PyData.shownAll (ns.map PyData.str))
      simp only [OL.toD, PyData.shown]
      rw [a4, List.length_map] at this
      rw [List.length_map] at a3
      have := h.1
      omega
  | .dct, h => ⟨by decide +kernel, by decide +kernel, by
    have : (OL.toD .dct).shown.length = 2 := by decide +kernel
    omega⟩
end B
/-! LM: a lambda handed to a def, with all told that its making changes -/
namespace LM
open PySem PySem.Spec PyProof.Rows L2 LamX
/-- a lambda was made: nothing has changed, or one code object more stands in the table at P -/
def LamStep (P : Addr) (q : Str) (H H1 : Hp) : Prop := H1 = H ∨ ∃ (ps : Array Value) (pos : Pos) (c : Addr), H P = some (.tbl ps) ∧ H c = none ∧ H1 = upd (upd H P (.tbl (ps ++ #[rawInt pos.line, rawInt pos.col, .ref c]))) c (CodeO c q)
section
variable {X : Cx} {pins : List (Addr × Obj)} {σ : L2.St} {H : Hp} {s : Shared}
theorem lam_made {c P : Addr} {params : Arguments} {body : Expr} {scope : Scope} {pos : Pos} {E : Value → Shared → Prop} {Q : Value → Shared → Prop} (J : Inv X pins σ H s) (B : TabB X.base X.mg c P) (ec : X.env.code = .ref c) (T : TabS H P (X.env.qual ++ "<lambda>"))
    (ed : defaultsOf params X.env = ([], [])) (fr : ∀ y ∈ scope.names, y.2 = .free → ∃ c, X.env.cells.lookup y.1 = some c)
    (k : ∀ (f d : Addr) (pm ct : Value) (H1 : Hp) (z : Shared), Inv X pins σ H1 z → LamStep P (X.env.qual ++ "<lambda>") H H1 → z.heap.get? f = some (PySem.W.kla_obj "<lambda>" (X.env.qual ++ "<lambda>") params body scope (cloFrom X.env.cells scope.names []) pm d ct) →
      H1 f = none → f ∉ frs X.stack → H1 d = some (CodeO d (X.env.qual ++ "<lambda>")) → Q (.ref f) z) : wpAny (model X.prog X.w) X.A (eval (.Lambda params body scope pos) X.env) Q E s := by
  obtain ⟨ps, eP, ok, all⟩ := T
  have gP : s.heap.get? P = some { cls := .none, data := .fields ps } := J.hok P _ eP
  have bt : s.heap.BuiltinsAt X.mg P := B.bm.keeps J.bk
  have out : ∀ f, s.heap.objs.size ≤ f → f ∉ frs X.stack := fun f hf z => (List.mem_cons.mp (J.stkSub _ z)).elim (fun e => by
    have := J.lt
    rw [← e] at this
    exact absurd this (Nat.not_lt.mpr hf)) fun e => J.nofs hf e
  refine PySem.W.kla_eval ed ?_
  cases ecd : codeAmong pos ps.toList with
  | some v =>
    obtain ⟨d, rfl, ho⟩ := all pos v ecd
    refine PySem.W.kla_makeFunctionHit (mg := X.mg) (c := c) (P := P) (ps := ps) (closure_ok fr) J.ok.glob (J.mod.glob.keeps J.bk) ec (B.code.keeps J.bk) gP ok ecd bt fun ct h2 tk hx sz => ?_
    exact k h2.objs.size d _ ct H _ (J.kept fun b o e => Heap.get?_push_of_some _ (hx b o e)) (.inl rfl) (Heap.get?_push_size _ rfl) (J.hok.fresh sz) (out _ sz) ho
  | none =>
    refine PySem.W.kla_makeFunction (mg := X.mg) (c := c) (P := P) (ps := ps) (closure_ok fr) J.ok.glob (J.mod.glob.keeps J.bk) ec (B.code.keeps J.bk) gP ok ecd B.gP bt fun d ct h2 tk hx ge lt rec tb => ?_
    obtain ⟨d', oc, vs, t, ed', hoc, hd, hv⟩ := rec
    cases ed'
    have nd : H d = none := J.hok.fresh ge
    have sz : s.heap.objs.size ≤ h2.objs.size := Nat.le_trans ge (Nat.le_of_lt lt)
    have J2 := inv_table (t' := tk) (more := #[rawInt pos.line, rawInt pos.col, .ref d]) (h' := h2.push (PySem.W.kla_obj "<lambda>" (X.env.qual ++ "<lambda>") params body scope (cloFrom X.env.cells scope.names []) ((X.mg "__name__").getD .none) d ct)) J eP
      (fun b o hb e => Heap.get?_push_of_some _ (hx b o hb e)) (Heap.get?_push_of_some _ tb) ge ⟨oc, vs, t, Heap.get?_push_of_some _ hoc, hd, hv⟩
    have n1 : h2.objs.size ≠ d := Nat.ne_of_gt lt
    have n2 : h2.objs.size ≠ P := fun z => by
      have := Heap.lt_size gP
      rw [← z] at this
      exact absurd this (Nat.not_lt.mpr sz)
    exact k h2.objs.size d _ ct _ _ J2 (.inr ⟨ps, pos, d, eP, nd, rfl⟩) (Heap.get?_push_size _ rfl) (by rw [upd_ne n1, upd_ne n2]; exact J.hok.fresh sz) (out _ sz) upd_same
end
section
variable {X : Cx} {pins : List (Addr × Obj)} {σ : L2.St} {H HZ : Hp} {s s1 : Shared}
/-- x() in the def that got the lambda; what it lets out is told by the slots -/
theorem pe_actS {CXg : CXT} {Eg : XK} {Ng : List Str} {qg : Str} {sg : Scope} {g f d : Addr} {cdg pm ctv : Value} {params : Arguments} {body : Expr} {scope : Scope} {k i : Nat} {a : Str} {pn : List (Addr × Obj)} {xe : Value → Shared → Prop} {W : WX} {tb : XK → TE} {p1 p2 : Pos}
    (J : Inv X pins σ H s) (L : LamS X.env.scope scope) (ef : s.heap.get? f = some (PySem.W.kla_obj "<lambda>" (X.env.qual ++ "<lambda>") params body scope (cloFrom X.env.cells scope.names []) pm d ctv)) (fn : H f = none) (ff : f ∉ frs X.stack)
    (eb : bindArgs (PySem.W.kla_fn "<lambda>" (X.env.qual ++ "<lambda>") params body scope (cloFrom X.env.cells scope.names []) pm (.ref d) ctv) ⟨[], []⟩ = pure [])
    (tk : Takes ((cxOf CXg X.prog X.w X.K X.mg X.base Ng qg sg g cdg X.A X.stack s H Eg).tr pn xe) W) (hr : Room (k + 1) (X.A.deeper (envOfC qg sg s.heap.objs.size g cdg)))
    (hbody : ∀ (A : Around) (outer : List Env) (s : Shared) (H : Hp) (E : XK), Room k (A.deeper (lamEnv X scope s.heap.objs.size f d)) → PE (lamCx X A outer s H E scope f d) body (tb E))
    (hN : Ng[i]? = some a) (hv : Vis sg a) (hd : (a == ("__debug__" : Str)) = false := by decide) (hcd : (a == ("__classdict__" : Str)) = false := by decide) :
    PE ((cxOf CXg X.prog X.w X.K X.mg X.base Ng qg sg g cdg X.A X.stack s H Eg).tr pn xe) (.Call (.Name a p1) [] [] p2) (fun σZ HZ Q => σZ[i]? = some (some (.ref f)) ∧ HZ d = some (CodeO d (X.env.qual ++ "<lambda>")) ∧ tb (WE W σZ) σ HZ Q) := by
  refine ⟨fun pz sZ σZ HZ Q IZ ⟨h1, h2, h3⟩ => wpAny_Call_Name_kw (thn ((pe_var (pos := p1) (i := i) hN hv hd hcd).run pz sZ σZ HZ (fun v H1 => v = .ref f ∧ H1 = HZ) IZ ⟨.ref f, h1, rfl, rfl⟩) fun u s1 ⟨v, H1, I1, r1, ev, eH⟩ => ?_)⟩
  subst ev
  rw [eH] at I1
  obtain rfl : u = Value.ref f := r1
  have un : Un (frs X.stack) [] H HZ s.heap s1.heap := I1.base
  have at1 := un.keep f _ ef fn ff (fun z => nomatch (show f ∈ ([] : List Addr) from z))
  obtain ⟨⟨oc, vs, t, hoc, hdc, hvc⟩, _, _⟩ := I1.hok d _ h2
  refine PySem.W.callWith_F0 ⟨_, _, _, _, at1⟩ (wpAny_call (codeAny_mono (show codeAny (model X.prog X.w) (X.A.deeper (envOfC qg sg s.heap.objs.size g cdg)) (.call (.ref f) ⟨[], []⟩) (CR (L2.CX X.prog X.w) (envOfC qg sg s.heap.objs.size g cdg :: X.stack) X.prog X.w HZ s1 Q (WE W σZ)) s1 from ?_) fun r z e => ?_))
  · refine PySem.W.kla_callFunE hr.depth at1 rfl L.co L.gen rfl ⟨d, oc, vs, t, rfl, hoc, hdc, hvc⟩ ?_
    rw [eb]
    refine wpAny_pure (wpAny_newFunctionEnv (fun y hy => (L.own y hy).2) (fun y hy => absurd hy (by simp)) (fun h₁ hns hsb => ⟨I1.nolimit.fresh _ hsb, ?_⟩) L.kind)
    show codeAny _ _ (.expr body (lamEnv X scope s1.heap.objs.size f d)) _ _
    have up : ∀ b o, s1.heap.get? b = some o → h₁.get? b = some o := fun b o e => hsb.extBut b o (Nat.ne_of_lt (Heap.lt_size e)) (Heap.get?_push_of_some _ e)
    have K2 : Inv (lamCx X (X.A.deeper (envOfC qg sg s.heap.objs.size g cdg)) (envOfC qg sg s.heap.objs.size g cdg :: X.stack) s1 HZ (WE W σZ) scope f d) [] σ HZ { s1 with heap := h₁, toks := s1.toks + ([] : List (Str × Value)).length } := lam_start2 J L I1.env0 hr.hd un hns up
    exact PySem.W.kla_codeExpr (wpAny_mono ((hbody _ _ s1 HZ (WE W σZ) (hr.deeper _)).run [] _ _ HZ Q K2 h3) (fun v z ⟨w, H2, J2, rv, q⟩ => ⟨w, H2, J2.os, J2.bare, J2.base, J2.hok, rv, q⟩) fun e z q => q)
  · cases r with
    | error y => exact (passAt (X := (cxOf CXg X.prog X.w X.K X.mg X.base Ng qg sg g cdg X.A X.stack s H Eg).tr pn xe) tk σZ) pz HZ s1 y z I1 e
    | ok fl => cases fl <;> first | exact I1.after e | exact e.elim
end
/-- the def that calls what it got -/
def Gives (X : Cx) (Ng : List Str) (x : Str) (sg : Scope) (g : Addr) (cdg : Value) (bg : List Stmt) (a : Str) (q : Str) (k : Nat) (TT : (XK → Hp → VK → Prop) → Hp → VK → Prop) : Prop :=
  ∀ (f d : Addr) (s : Shared) (H : Hp) (Q : VK) (tl : XK → Hp → VK → Prop), Room k (X.A.deeper (envOfC x sg s.heap.objs.size g cdg)) →
    (∀ (W : WX) (pn : List (Addr × Obj)) (xe : Value → Shared → Prop) (p1 p2 : Pos), Takes ((cxOf C8.CX0 X.prog X.w X.K X.mg X.base Ng x sg g cdg X.A X.stack s H C8.E0).tr pn xe) W →
      PE ((cxOf C8.CX0 X.prog X.w X.K X.mg X.base Ng x sg g cdg X.A X.stack s H C8.E0).tr pn xe) (.Call (.Name a p1) [] [] p2) (fun σZ HZ Q => σZ[0]? = some (some (.ref f)) ∧ HZ d = some (CodeO d q) ∧ tl (WE W σZ) HZ Q)) →
    H d = some (CodeO d q) → TT tl H Q → ∃ t, PSs (cxOf C8.CX0 X.prog X.w X.K X.mg X.base Ng x sg g cdg X.A X.stack s H C8.E0).nox bg t ∧ t { nx := fun _ H' => Q .non H', rt := Q } (L2.start Ng [.ref f]) H
/-- x(lambda: ..) -/
def tLm (P : Addr) (q : Str) (TT : (XK → Hp → VK → Prop) → Hp → VK → Prop) (t : XK → TE) : TE := fun σ H Q => TabS H P q ∧ ∀ H1, LamStep P q H H1 → TT (fun E H' Q' => t E σ H' Q') H1 Q
theorem pe_lm {X : Cx} {TT : (XK → Hp → VK → Prop) → Hp → VK → Prop} {x a : Str} {g c P : Addr} {k : Nat} {pg : Arguments} {bg : List Stmt} {sg : Scope} {dV kV doc pm cdv ct oc : Value} {an od : Option Addr} {osl : Array (Option Value)} {Ng : List Str}
    {params : Arguments} {body : Expr} {scope : Scope} {t : XK → TE} {p lpos pos : Pos} (hg : Gl X x) (hm : X.mg x = some (.ref g)) (hk : PySem.W.keepIn X.K (.ref g) = true) (lk : X.K.lookup g = some ⟨oc, od, .func (PySem.W.fnOf x x pg bg sg dV kV doc pm an cdv ct), osl⟩)
    (hcg : PySem.W.codeIn X.K cdv x = true) (hb : L2.Binds X.K (PySem.W.fnOf x x pg bg sg dV kV doc pm an cdv ct) [a] []) (Sg : FnScope Ng [a] sg) (hNg : Ng[0]? = some a) (hva : Vis sg a) (hG : Gives X Ng x sg g cdv bg a (X.env.qual ++ "<lambda>") (k + 1) TT)
    (B : TabB X.base X.mg c P) (ec : X.env.code = .ref c) (hr : Room (k + 2) X.A) (L : LamS X.env.scope scope) (ed : defaultsOf params X.env = ([], [])) (eb : ∀ (q : Str) (cl : List (Str × Addr)) (pm cv ctv : Value), bindArgs (PySem.W.kla_fn "<lambda>" q params body scope cl pm cv ctv) ⟨[], []⟩ = pure [])
    (hbody : ∀ (A : Around) (outer : List Env) (s : Shared) (H : Hp) (E : XK) (f d : Addr), Room k (A.deeper (lamEnv X scope s.heap.objs.size f d)) → PE (lamCx X A outer s H E scope f d) body (t E))
    (hdb : (x == ("__debug__" : Str)) = false := by decide) (hd : (a == ("__debug__" : Str)) = false := by decide) (hcd : (a == ("__classdict__" : Str)) = false := by decide) :
    PE X (.Call (.Name x p) [.Lambda params body scope lpos] [] pos) (tLm P (X.env.qual ++ "<lambda>") TT t) := by
  refine ⟨fun pins s σ H Q J ⟨hT, h⟩ => wpAny_Call_Name_kw (ld_glob J hg hm (PySem.W.callWith_K (h₀ := X.base) J.ok.mod.kin hk ?_ (by rfl) (by rfl)) hdb)⟩
  show wpAny _ _ (spliced ((false, eval (.Lambda params body scope lpos) X.env) :: backTo pos (starEach [] X.env))) _ _ s
  refine Calls.spliced_cons (lam_made J B ec hT ed (L.has J.ok) fun f d pm' ctv H1 z J1 st hf hn ho hc => Calls.spliced_nil ⟨J1.kIn, ?_⟩)
  have run : codeAny (model X.prog X.w) X.A (.call (.ref g) ⟨[.ref f], []⟩) (CR C8.CX0 X.stack X.prog X.w H1 z Q C8.E0) z := by
    refine run_ofS (N := Ng) (ps := [a]) (us := [.ref f]) (vs := [.ref f]) lk hcg Sg hr J1.env0 (hb z [.ref f] J1.kIn rfl) (.cons rfl .nil) rfl fun hr' => ?_
    obtain ⟨u, hu, q⟩ := hG f d z H1 Q (fun E H' Q' => t E σ H' Q') hr' (fun W pn xe p1 p2 tk => pe_actS (i := 0) (tb := t) J1 L hf hn ho (eb _ _ _ _ _) tk hr' (fun A outer s H E r2 => hbody A outer s H E f d r2) hNg hva hd hcd) hc (h H1 st)
    exact ⟨u, hu.nox, q⟩
  refine wpAny_call (codeAny_mono run fun r z2 e => ?_)
  cases r with
  | error y => exact (show False from e).elim
  | ok fl =>
    cases fl with
    | ret u => exact J1.after e
    | next => exact e.elim
    | brk => exact e.elim
    | cont => exact e.elim
/-- what is raised in a lambda's body goes to whoever called it -/
theorem lam_pass {X : Cx} {A : Around} {outer : List Env} {s : Shared} {H : Hp} {E : XK} {scope : Scope} {f d : Addr} : Passes (L2.CX X.prog X.w) (lamCx X A outer s H E scope f d) E :=
  passes_call (X := lamCx X A outer s H E scope f d) (W := fun cls d _ H => E cls d H) (takes_of (X := lamCx X A outer s H E scope f d) (E := E) rfl rfl rfl rfl) fun _ _ _ _ h => h
end LM
/-! B: tables of lambdas' code objects; what is refused, by a lambda; the top with tables -/
namespace B
open PySem PySem.Spec PyProof.Rows L2 LamX LM
open PySem.W (Tup T3 T4 Datum DatumOrd)
open Evl (Ex)
/-- the table of a def's lambdas stands at P -/
structure TabAt (W : Wd) (P : Addr) (q : Str) : Prop where
  b : W.B P = none
  ex : ∃ ps : Array Value, W.H P = some (.tbl ps) ∧ TriplesOk ps.toList ∧ ∀ (pos : Pos) (cv : Value), codeAmong pos ps.toList = some cv → ∃ c, cv = .ref c ∧ W.B c = some (CodeO c q) ∧ W.H c = some (CodeO c q)
section
variable {W W' : Wd} {P : Addr} {q : Str} {S : List Addr} {H1 : Hp}
theorem TabAt.nt (t : TabAt W P q) : Nt W.H P := by
  obtain ⟨ps, e, _⟩ := t.ex
  exact ⟨_, e, fun _ z => by cases z⟩
theorem TabAt.g (t : TabAt W P q) (g : Md S W W') (h : P ∉ S) : TabAt W' P q := by
  obtain ⟨ps, e, ok, all⟩ := t.ex
  have m := g.mut h e t.b
  exact ⟨m.2, ps, m.1, ok, fun pos cv hc => by
    obtain ⟨c, e1, e2, e3⟩ := all pos cv hc
    exact ⟨c, e1, g.b _ _ e2, g.l _ _ e2 e3⟩⟩
theorem TabAt.gr (t : TabAt W P q) (g : Grow W W') : TabAt W' P q := t.g g (by simp)
theorem TabAt.ts (t : TabAt W P q) : TabS W.H P q := by
  obtain ⟨ps, e, ok, all⟩ := t.ex
  exact ⟨ps, e, ok, fun pos cv hc => by
    obtain ⟨c, e1, _, e3⟩ := all pos cv hc
    exact ⟨c, e1, e3⟩⟩
theorem TabAt.step (t : TabAt W P q) (st : LamStep P q W.H H1) : ∃ W1 : Wd, W1.H = H1 ∧ Md [P] W W1 ∧ TabAt W1 P q := by
  rcases st with rfl | ⟨ps, pos, c, e, nc, rfl⟩
  · exact ⟨W, rfl, .refl _ _, t⟩
  · obtain ⟨ps', e', ok, all⟩ := t.ex
    rw [e] at e'
    cases e'
    let W1 := W.put P (.tbl (ps ++ #[rawInt pos.line, rawInt pos.col, .ref c])) t.b
    have m1 : Md [P] W W1 := md_put t.b
    have cP : c ≠ P := fun z => by rw [z, e] at nc; cases nc
    have nc1 : W1.H c = none := (upd_ne cP).trans nc
    have g2 : Grow W1 (W1.add c (CodeO c q)) := W1.grow_add nc1
    refine ⟨W1.add c (CodeO c q), rfl, m1.trans (Grow.s g2), ?_, _, (upd_ne cP.symm).trans upd_same, by
      rw [show (ps ++ #[rawInt pos.line, rawInt pos.col, .ref c]).toList = ps.toList ++ [rawInt pos.line, rawInt pos.col, .ref c] by simp]
      exact PySem.TriplesOk_snoc _ _ _ _ ok, fun p v hv => ?_⟩
    · show upd W1.B c _ P = none
      rw [upd_ne cP.symm]
      exact t.b
    · rw [show (ps ++ #[rawInt pos.line, rawInt pos.col, .ref c]).toList = ps.toList ++ [rawInt pos.line, rawInt pos.col, .ref c] by simp] at hv
      rcases among_app _ ok hv with z | z
      · obtain ⟨d, e1, e2, e3⟩ := all p v z
        have g := m1.trans (Grow.s (S := [P]) g2)
        exact ⟨d, e1, g.b _ _ e2, g.l _ _ e2 e3⟩
      · exact ⟨c, z, upd_same, upd_same⟩
end
/-- the effect of making lambdas -/
def lamE (P : Addr) (q : Str) : Ef := ⟨[P], fun W => TabAt W P q, fun W a s h => by
    rw [show a = P by simpa using h]
    exact s.nt,
  fun W W' b h s => by
    obtain ⟨h1, h2⟩ := h P (by simp) s.nt
    obtain ⟨ps, e, ok, all⟩ := s.ex
    refine ⟨h2.trans s.b, ps, h1.trans e, ok, fun pos cv hc => ?_⟩
    obtain ⟨c, e1, e2, e3⟩ := all pos cv hc
    have e4 := b _ _ e2
    refine ⟨c, e1, e4, ?_⟩
    rcases W'.sub c _ e4 with z | ⟨⟨kv, z⟩, _⟩
    · exact z
    · unfold CodeO at z; cases z⟩
/-- the body of a def that calls what it got, catches and tells by a word -/
abbrev tRef (K : Fg) (CL : Addr) (sw : Sp) (act : WX → TE) : TS :=
  tSeq (tAsg (tC .non) (gName 1)) (tSeq (fun D σ H => tDrop (act (BX.wAsK K (.ref CL) 2 (fun _ _ _ => tAsg (tVar 2) (gName 1)) (fun _ _ _ _ => False) D)) D σ H) (tRet (tCall sw [] E0 (tCons (tVar 1) tNil))))
def TTref (K : Fg) (CL : Addr) (sw : Sp) : (XK → Hp → VK → Prop) → Hp → VK → Prop := fun tl H Q =>
  ∀ f : Addr, tRef K CL sw (fun W σ H Q => tl (WE W σ) H Q) { nx := fun _ H' => Q .non H', rt := Q } [some (.ref f), none, none] H
section
variable {K : Fg} {CL C P : Addr} {sw : Sp} {t : XK → TE} {σ : SS} {W : Wd} {q : Str} {w : Str}
/-- what is refused is told by its word -/
theorem ev_refused (hx : PySem.W.exmOne K (.ref C) (.ref CL) = some true) (hw : ∀ (W : Wd) (a : Addr), W.H a = some (BX.ExK (.ref C) none a) → ∀ Q : VK, (∀ W', Grow W W' → Q (.str w) W'.H) → sw [.ref a] W.H Q E0)
    (hb : ∀ W1, Md [P] W W1 → ∀ (E : XK) (Q : VK), (∀ W2, Grow W1 W2 → E (.ref C) none W2.H) → t E σ W1.H Q) : EvR (lamE P q) K (tLm P q (TTref K CL sw) t) σ W w := fun W1 g1 Q k => by
  have t1 : TabAt W1 P q := g1.i
  refine ⟨t1.ts, fun H1 st => ?_⟩
  obtain ⟨W2, rfl, m2, t2⟩ := t1.step st
  refine fun f => hb W2 (g1.md.trans m2) _ _ fun W3 g3 => ⟨true, hx, fun _ a ha => ?_, fun z => by cases z⟩
  refine ⟨_, rfl, fun ha' => ?_⟩
  let W4 := W3.add a (BX.ExK (.ref C) none a)
  have g4 : Grow W3 W4 := W3.grow_add ha'
  refine ⟨_, rfl, hw W4 a upd_same Q fun W5 g5 => k _ W5 ⟨m2.trans (Grow.s (g3.trans (g4.trans g5))), t2.gr (g3.trans (g4.trans g5))⟩ rfl⟩
/-- nothing is refused -/
theorem ev_allowed {R : Wd → Prop} (hw : ∀ (W : Wd), ∀ Q : VK, (∀ W', Grow W W' → Q (.str "") W'.H) → sw [.non] W.H Q E0)
    (hb : ∀ W1, Md [P] W W1 → ∀ (E : XK) (Q : VK), (∀ v W2, Grow W1 W2 → Q v W2.H) → t E σ W1.H Q) : EvR (lamE P q) K (tLm P q (TTref K CL sw) t) σ W ("" : Str) := fun W1 g1 Q k => by
  have t1 : TabAt W1 P q := g1.i
  refine ⟨t1.ts, fun H1 st => ?_⟩
  obtain ⟨W2, rfl, m2, t2⟩ := t1.step st
  refine fun f => hb W2 (g1.md.trans m2) _ _ fun v W3 g3 => ⟨_, rfl, hw W3 Q fun W5 g5 => k _ W5 ⟨m2.trans (Grow.s (g3.trans g5)), t2.gr (g3.trans g5)⟩ rfl⟩
end
/-- what a call of it gives -/
theorem gives_ref {X : Cx} {Ng : List Str} {x a q : Str} {sg : Scope} {g : Addr} {cdg : Value} {bg : List Stmt} {k : Nat} {CL : Addr} {sw : Sp} (h3 : Ng.length = 3)
    (body : ∀ (f d : Addr) (s : Shared) (H : Hp) (tl : XK → Hp → VK → Prop), Room k (X.A.deeper (envOfC x sg s.heap.objs.size g cdg)) →
      (∀ (W : WX) (pn : List (Addr × Obj)) (xe : Value → Shared → Prop) (p1 p2 : Pos), Takes ((cxOf C8.CX0 X.prog X.w X.K X.mg X.base Ng x sg g cdg X.A X.stack s H C8.E0).tr pn xe) W →
        PE ((cxOf C8.CX0 X.prog X.w X.K X.mg X.base Ng x sg g cdg X.A X.stack s H C8.E0).tr pn xe) (.Call (.Name a p1) [] [] p2) (fun σZ HZ Q => σZ[0]? = some (some (.ref f)) ∧ HZ d = some (CodeO d q) ∧ tl (WE W σZ) HZ Q)) →
      PSs (cxOf C8.CX0 X.prog X.w X.K X.mg X.base Ng x sg g cdg X.A X.stack s H C8.E0).nox bg (tRef X.K CL sw (fun W σZ HZ Q => σZ[0]? = some (some (.ref f)) ∧ HZ d = some (CodeO d q) ∧ tl (WE W σZ) HZ Q))) :
    Gives X Ng x sg g cdg bg a q k (TTref X.K CL sw) := fun f d s H Q tl hr act hc h => by
  refine ⟨_, body f d s H tl hr act, ?_⟩
  have e : L2.start Ng [V.ref f] = [some (.ref f), none, none] := by
    match Ng, h3 with
    | [_, _, _], _ => rfl
  rw [e]
  exact ⟨rfl, hc, h f⟩
/-! ### addresses told by the top's names -/
def tabC (K : Fg) (x : Str) : Addr := match PySem.W.tabIn K x with
  | some (c, _) => c
  | _ => 0
def tabP (K : Fg) (x : Str) : Addr := match PySem.W.tabIn K x with
  | some (_, P) => P
  | _ => 0
theorem tabC_of {K : Fg} {x : Str} {c P : Addr} (h : PySem.W.tabIn K x = some (c, P)) : tabC K x = c := by
  unfold tabC
  rw [h]
theorem tabP_of {K : Fg} {x : Str} {c P : Addr} (h : PySem.W.tabIn K x = some (c, P)) : tabP K x = P := by
  unfold tabP
  rw [h]
/-- a def of which the code object is known -/
structure FunC (K : Fg) (x qual : Str) (st : Stmt) (f : Addr) (fd : FuncData) (c : Addr) : Prop where
  ex : ∃ (oc : Value) (od : Option Addr) (kV doc pm : Value) (an : Option Addr) (ct : Value) (osl : Array (Option Value)),
    fd = PySem.W.fnOf x qual (defArgs st) (defBody st) (defScope st) .none kV doc pm an (.ref c) ct ∧ K.lookup f = some ⟨oc, od, .func fd, osl⟩ ∧ PySem.W.codeIn K (.ref c) qual = true
  kp : PySem.W.keepIn K (.ref f) = true
section
variable {P : Program} {w : World} {K : Fg} {mg : Str → Option Value} {base : Heap}
theorem FunC.okC {x qual : Str} {st : Stmt} {f c : Addr} {fd : FuncData} {N ps : List Str} {k : Nat} {sp : Sp} (F : FunC K x qual st f fd c) (S : FnScope N ps (defScope st)) (len : ∀ vs H Q E, sp vs H Q E → vs.length = ps.length)
    (body : ∀ (A : Around) (outer : List Env) (s : Shared) (H : Hp) (vs : List V) (Q : VK) (E : XK), Room k (A.deeper (envOfC qual (defScope st) s.heap.objs.size f (.ref c))) → sp vs H Q E →
      ∃ t, PSs (cxOf CX0 P w K mg base N qual (defScope st) f (.ref c) A outer s H E).nox (defBody st) t ∧ t { nx := fun _ H' => Q .non H', rt := Q } (start N vs) H) : FnOk P w K mg base CX0 (k + 1) f fd ps sp := by
  obtain ⟨oc, od, kV, doc, pm, an, ct, osl, rfl, lk, hcd⟩ := F.ex
  exact fn_of lk hcd S len fun A outer s H vs Q E hr hsp => by
    obtain ⟨t, h, q⟩ := body A outer s H vs Q E hr hsp
    exact ⟨t, h.nox, q⟩
theorem okGC {x qual : Str} {st : Stmt} {f c : Addr} {fd : FuncData} {N ps : List Str} {k : Nat} {sp : Sp} (F : FunC K x qual st f fd c) (S : FnScope N ps (defScope st)) (ln : ∀ vs H Q E, sp vs H Q E → vs.length = ps.length)
    (body : ∀ (A : Around), A.guards = some [] → ∀ (outer : List Env) (s : Shared) (H : Hp) (vs : List V) (Q : VK) (E : XK), Room k (A.deeper (envOfC qual (defScope st) s.heap.objs.size f (.ref c))) → sp vs H Q E →
      ∃ t, PSs (cxOf CX0 P w K mg base N qual (defScope st) f (.ref c) A outer s H E).nox (defBody st) t ∧ t { nx := fun _ H' => Q .non H', rt := Q } (start N vs) H) : FnG P w K mg base (k + 1) f fd ps sp := by
  obtain ⟨oc, od, kV, doc, pm, an, ct, osl, rfl, lk, hcd⟩ := F.ex
  refine ⟨ln, fun {A outer s H args us vs Q E} hg hr e0 hb r h => ?_⟩
  have same : ∀ b o, base.get? b = some o → s.heap.get? b = some o := fun b o z => (e0.bs b o z).1
  have inK := e0.mod.kin.keeps same
  obtain ⟨t, ht, q⟩ := body A hg outer s H vs Q E (hr.deeper _) h
  refine codeAny_call_function hr.depth (inK _ _ lk) rfl S.co S.gen rfl (PySem.W.codeRec_of inK hcd) (hb _ _ _ _ (wpAny_newFunctionEnv_cells S.kind (fun y hy => ?_) fun env he s1 z => ?_))
  · obtain ⟨n, v⟩ := y
    exact (S.par n (List.of_mem_zip hy).1).imp id fun c => ⟨c, PySem.W.cellsFrom_some _ _ _ (.inl c)⟩
  · subst he
    refine ⟨(e0.mod.nolimit.keeps same).keeps z.toInCall.keep, codeAny_func (wpAny_mono (ht.nox.run [] s1 (start N vs) H _ (inv_start S hr.hd e0 (ln _ _ _ _ h) r z) q) (fun fl s' d => ?_) fun _ _ d => d)⟩
    cases fl with
    | ret u => obtain ⟨v, σ', H', J, rv, d⟩ := d; exact end_of (X := cxOf CX0 P w K mg base N qual (defScope st) f (.ref c) A outer s H E) J rv d
    | next => obtain ⟨σ', H', J, d⟩ := d; exact end_of (X := cxOf CX0 P w K mg base N qual (defScope st) f (.ref c) A outer s H E) (v := .non) J rfl d
    | brk => obtain ⟨_, _, _, d⟩ := d; exact d.elim
    | cont => obtain ⟨_, _, _, d⟩ := d; exact d.elim
end
end B
/-! B: the top where defs hold lambdas; list.count of flat things; the word of a refusal -/
namespace B
open PySem PySem.Spec PyProof.Rows L2 LamX LM
/-- the abstract heap at the top: the script, and the tables, still empty -/
def topT (K : Fg) (a : Addr) (o : Obj) (ns : List Int) (ps : List Addr) : Hp := fun b => if b = a ∧ K.lookup a = none then some (.frz o (.lst (ns.map V.int))) else if b ∈ ps then some (.tbl #[]) else none
section
variable {P : Program} {w : World} {K : Fg} {mg mb : Str → Option Value} {a fa : Addr} {s : Shared} {vs : List Value} {ns : List Int} {k : Nat} {fd : FuncData} {x : Str} {sp : Sp} {cs : List (Addr × Addr)}
theorem topT_some {o : Obj} {ps : List Addr} {b : Addr} {u : HO} (h : topT K a o ns ps b = some u) : (b = a ∧ K.lookup a = none ∧ u = .frz o (.lst (ns.map V.int))) ∨ (b ∈ ps ∧ u = .tbl #[]) := by
  unfold topT at h
  split at h
  · rename_i c; exact .inl ⟨c.1, c.2, (Option.some.inj h).symm⟩
  · split at h
    · rename_i c; exact .inr ⟨c, (Option.some.inj h).symm⟩
    · cases h
theorem topT_none {o : Obj} {ps : List Addr} {b : Addr} (h1 : ¬ (b = a ∧ K.lookup a = none)) (h2 : b ∉ ps) : topT K a o ns ps b = none := by
  unfold topT
  rw [if_neg h1, if_neg h2]
theorem top_lawT (KX : K.In s.heap) (hns : s.heap.Ns mainGlobals mg) (hb : s.heap.Ns builtinsNs mb) (hbb : ∀ x : Str, x ≠ "__name__" → mb x = bootBuiltins x) (hlim : s.heap.NoLimit) (hg : s.gens = #[])
    (ht : ∀ p ∈ cs, s.heap.get? p.2 = some { cls := .none, data := .fields #[] }) (kt : ∀ p ∈ cs, K.lookup p.2 = none) (ct : ∀ p ∈ cs, PySem.W.CodeHd s.heap p.1 p.2)
    (hm : ∃ (bm : Addr) (ob : Obj), mg "__builtins__" = some (.ref bm) ∧ bm ≠ builtinsNs ∧ s.heap.get? bm = some ob ∧ ob.cls = .type "module" ∧ ob.dict = some builtinsNs ∧ ob.data = .plain)
    (ha : s.heap.get? a = some { cls := .type "list", data := .seq vs.toArray }) (hi : IntsAre vs ns) (hl : ns.length ≤ sizeLine)
    (hr : Room k callerA) (F : ∀ base : Heap, K.In base → base.Ns mainGlobals mg → (∀ p ∈ cs, TabB base mg p.1 p.2) → FnG P w K mg base k fa fd [x] sp) (hbind : ∀ (s : Shared) (u : Value), BindsTo s fd ⟨[u], []⟩ [(x, u)])
    (hsp : ∀ H : Hp, (∀ p ∈ cs, H p.2 = some (.tbl #[]) ∧ a ≠ p.2) → SqL K H a (ns.map V.int) → sp [.ref a] H (fun v _ => v = .bl true) fun _ _ _ => False) :
    codeAny (model P w) callerA (.call (.ref fa) ⟨[.ref a], []⟩) (fun r s' => r = .ok (.ret (.bool true)) ∧ OldK s.heap s'.heap ∧ s'.os = s.os ∧ AllBare s'.gens) s := by
  let ps := cs.map (·.2)
  let o : Obj := { cls := .type "list", data := .seq vs.toArray }
  let H := topT K a o ns ps
  have mem : ∀ {b : Addr}, b ∈ ps → s.heap.get? b = some { cls := .none, data := .fields #[] } ∧ K.lookup b = none := fun {b} hb => by
    obtain ⟨p, hp, e⟩ := List.mem_map.mp hb
    rw [← e]
    exact ⟨ht p hp, kt p hp⟩
  have na : a ∉ ps := fun z => by
    have := (mem z).1
    rw [ha] at this
    have e : Data.seq vs.toArray _ = Data.fields #[] := congrArg Obj.data (Option.some.inj this)
    cases e
  have inp : ∀ p ∈ cs, p.2 ∈ ps := fun p hp => List.mem_map.mpr ⟨p, hp, rfl⟩
  have stay : ∀ {b : Addr} {u : Obj}, s.heap.get? b = some u → (b = a → K.lookup a = none → False) → (u.data ≠ .fields #[]) → (hidT s.heap H).get? b = some u := fun {b u} z n1 n2 => hidT_get z (topT_none (fun c => n1 c.1 c.2) fun c => by
    rw [(mem c).1] at z
    cases z
    exact n2 rfl)
  have ns' : ∀ {b : Addr} {m : Str → Option Value}, s.heap.Ns b m → (hidT s.heap H).Ns b m := fun {b m} ⟨u, es, ep, z1, z2, z3⟩ => ⟨u, es, ep, stay z1 (fun c _ => by
    rw [c, ha] at z1
    cases z1
    cases z2) (by rw [z2]; exact fun z => by cases z), z2, z3⟩
  have kin : K.In (hidT s.heap H) := fun b u z => hidT_get (KX b u z) (topT_none (fun c => by
    rw [c.1, c.2] at z
    cases z) fun c => by
    rw [(mem c).2] at z
    cases z)
  have hok : HOk P w H s.heap := fun b u z => by
    rcases topT_some z with ⟨rfl, _, rfl⟩ | ⟨c, rfl⟩
    · exact ⟨ha, by rw [List.length_map]; exact hl, vs, _, vals_ints hi, ha⟩
    · exact (mem c).1
  obtain ⟨mc, l1, l2⟩ := hlim
  have e0 : Env0 P w K mg (hidT s.heap H) callerA [] s H := ⟨rfl, ⟨kin, ns' hns, ⟨mb, ns' hb, hbb⟩, mc, ns' l1, l2⟩, fun b u z => of_hidT z, Nat.le_of_eq (hidT_size _ _), trivial, fun b z => (nomatch z), hok, .of_eq hg⟩
  have tb : ∀ p ∈ cs, TabB (hidT s.heap H) mg p.1 p.2 := fun p hp => by
    have htp := ht p hp
    refine ⟨?_, ?_, fun z => ?_⟩
    · obtain ⟨u, us, file, tf, flags, tg, inF, text, tt, e1, r1, r2, r3, rest⟩ := ct p hp
      refine ⟨u, us, file, tf, flags, tg, inF, text, tt, stay e1 (fun c _ => ?_) (fun z => ?_), r1, r2, r3, rest⟩
      · rw [c, ha] at e1
        cases e1
        cases r2
      · rw [r2] at z
        cases z
        simp at r3
    · obtain ⟨bm, ob, b1, b2, b3, b4, b5, b6⟩ := hm
      refine ⟨bm, ob, b1, b2, fun q => ?_, fun q => ?_, stay b3 (fun c _ => ?_) (by rw [b6]; exact fun z => by cases z), b4, b5, b6⟩
      · obtain ⟨u, es, ep, e, hd, _⟩ := hns
        rw [q, e] at b3
        cases b3
        rw [hd] at b6
        cases b6
      · rw [q, htp] at b3
        cases b3
        cases b6
      · rw [c, ha] at b3
        cases b3
        cases b6
    · obtain ⟨u, es, ep, e, hd, _⟩ := hns
      rw [z, htp] at e
      cases e
      cases hd
  have seq : SqL K H a (ns.map V.int) := by
    cases e : K.lookup a with
    | none => exact .inl (.inr ⟨_, if_pos ⟨rfl, e⟩⟩)
    | some u =>
      have := (KX a u e).symm.trans ha
      cases this
      exact .inr ⟨_, vs.toArray, _, e, rfl, rfl, rfl, by rw [List.size_toArray, hi.length]; exact hl, by simpa using vals_ints hi⟩
  have tbl : ∀ p ∈ cs, H p.2 = some (.tbl #[]) ∧ a ≠ p.2 := fun p hp => by
    have ne : a ≠ p.2 := fun z => na (by rw [z]; exact inp p hp)
    exact ⟨(if_neg fun c => ne c.1.symm).trans (if_pos (inp p hp)), ne⟩
  refine codeAny_mono ((F _ kin (ns' hns) tb).go (us := [.ref a]) (vs := [.ref a]) rfl hr e0 (hbind s (.ref a)) (.cons rfl .nil) (hsp H tbl seq)) fun r s' d => ?_
  cases r with
  | error e => exact absurd d (by intro z; exact z.elim)
  | ok fl =>
    cases fl with
    | next => exact d.elim
    | brk => exact d.elim
    | cont => exact d.elim
    | ret u =>
      obtain ⟨v, H', hos, hbare, un, ok', rv, rfl⟩ := d
      cases (show u = Value.bool true from rv)
      have grown : ∀ p ∈ cs, ∃ more : Array Value, s'.heap.get? p.2 = some { cls := .none, data := .fields more } := fun p hp => by
        obtain ⟨more, z⟩ := un.tbls p.2 #[] (tbl p hp).1
        exact ⟨_, ok' p.2 _ z⟩
      have other : ∀ b u, b ∉ ps → s.heap.get? b = some u → s'.heap.get? b = some u := fun b u nb z => by
        cases q : H b with
        | none => exact un.keep b u z q (fun c => nomatch c) (fun c => nomatch c)
        | some y =>
          rcases topT_some q with ⟨rfl, _, rfl⟩ | ⟨c, _⟩
          · have := (ok' _ _ (un.frzs _ _ _ q)).1
            rw [ha] at z
            cases z
            exact this
          · exact absurd c nb
      refine ⟨rfl, ⟨fun b u z => ?_, fun b u z => ?_⟩, hos, hbare⟩
      · by_cases c : b ∈ ps
        · obtain ⟨p, hp, e⟩ := List.mem_map.mp c
          obtain ⟨more, hmo⟩ := grown p hp
          have e : p.2 = b := e
          subst e
          rw [ht p hp] at z
          cases z
          exact .inr (.inl ⟨((ct p hp).tab (ht p hp)).isCodeTable, rfl, #[], more, rfl, by rw [Array.empty_append]; exact hmo⟩)
        · exact .inl (other b u c z)
      · by_cases c : b ∈ ps
        · obtain ⟨p, hp, e⟩ := List.mem_map.mp c
          obtain ⟨more, hmo⟩ := grown p hp
          have e : p.2 = b := e
          exact ⟨_, e ▸ hmo⟩
        · exact ⟨u, other b u c z⟩
end
theorem walkGT {xs : List Str} {l : PySem.W.OpenLaw} {n k : Nat} {q : Program} {loose : List Str} {XP : (Str → Option Value) → Heap → Prop} {YP : World → Heap → Prop} {d : DefRec} {K : Params → Fg} {sp : World → Sp} {x : Str} (hn : l.most = some n) (hn2 : n ≤ sizeLine) (hdf : d.params.defaults = []) (hr : Room k callerA)
    (hrec : (xs.all fun x => ((recsOf q).find? fun e => e.name == x).isSome) = true) (hY : ∀ (w : World) (h : Heap), YP w h → (K w.params).In h)
    (F : ∀ (w : World) (mg : Str → Option Value) (fa : Addr) (h : Heap), (K w.params).In h → h.Ns mainGlobals mg → mg d.name = some (.ref fa) → ∃ fd : FuncData, (∀ (s : Shared) (u : Value), BindsTo s fd ⟨[u], []⟩ [(x, u)]) ∧
      (∀ x ∈ xs, ∃ c P, PySem.W.tabIn (K w.params) x = some (c, P) ∧ (K w.params).lookup P = none) ∧
      ∀ base : Heap, (K w.params).In base → base.Ns mainGlobals mg → (∀ x ∈ xs, TabB base mg (tabC (K w.params) x) (tabP (K w.params) x)) → FnG l.prog w (K w.params) mg base k fa fd [x] (sp w))
    (hsp : ∀ (w : World) (H : Hp) (a : Addr) (ns : List Int), ns.length ≤ n → (∀ x ∈ xs, H (tabP (K w.params) x) = some (.tbl #[]) ∧ a ≠ tabP (K w.params) x) → SqL (K w.params) H a (ns.map V.int) → sp w [.ref a] H (fun v _ => v = .bl true) fun _ _ _ => False) :
    PySem.W.WalkO q loose XP YP l.row.toRowW d [] (fun f vs => PySem.call f vs) :=
  Att.attach_call hn hdf fun w s₀ s₁ mg mb fa o pm cd doc a vs ns G Y ho hd hcd hmg hobj hints hlen hg => by
    have KX := hY w _ Y
    obtain ⟨fd, hb, ht, hF⟩ := F w mg fa _ KX G.T.g hmg
    have tabs : ∀ x ∈ xs, PySem.W.CodeHd s₁.heap (tabC (K w.params) x) (tabP (K w.params) x) ∧ s₁.heap.get? (tabP (K w.params) x) = some { cls := .none, data := .fields #[] } ∧ (K w.params).lookup (tabP (K w.params) x) = none := fun x hx => by
      obtain ⟨c, P, e, e2⟩ := ht x hx
      obtain ⟨r, hr⟩ := Option.isSome_iff_exists.mp (List.all_eq_true.mp hrec x hx)
      have := PySem.W.tab_of G.T KX hr e
      rw [tabC_of e, tabP_of e]
      exact ⟨this.1, this.2, e2⟩
    let cs := xs.map fun x => (tabC (K w.params) x, tabP (K w.params) x)
    have all : ∀ (R : Addr × Addr → Prop), (∀ x ∈ xs, R (tabC (K w.params) x, tabP (K w.params) x)) → ∀ p ∈ cs, R p := fun R h p hp => by
      obtain ⟨x, hx, rfl⟩ := List.mem_map.mp hp
      exact h x hx
    refine top_lawT (cs := cs) KX G.T.g G.T.b G.T.builtins G.T.nolimit hg (all _ fun x hx => (tabs x hx).2.1) (all _ fun x hx => (tabs x hx).2.2) (all _ fun x hx => (tabs x hx).1) G.T.bmain hobj hints (Nat.le_trans hlen hn2) hr (fun base h1 h2 h3 => hF base h1 h2 fun x hx => h3 _ (List.mem_map.mpr ⟨x, hx, rfl⟩)) hb fun H hH hS => hsp w H a ns hlen (fun x hx => hH _ (List.mem_map.mpr ⟨x, hx, rfl⟩)) hS
/-! ### list.count, flat things -/
section
variable {X : Cx}
def rCntF (K : Fg) : V → List V → Hp → VK → Prop := fun x xs H Q => ∃ (a : Addr) (ys : List V) (y : V), x = V.ref a ∧ xs = [y] ∧ SqL K H a ys ∧ flatV y = true ∧ ys.all flatV = true ∧ Q (.int (ys.countP (fun z => eqV z y) : Nat)) H
theorem cnt_flat {y : V} {uy : Value} (ry : RelV y uy) (fy : flatV y = true) : ∀ {ys : List V} {us : List Value}, Vals ys us → ys.all flatV = true → us.countP (eqU y) = ys.countP (fun z => eqV z y)
  | _, _, .nil, _ => rfl
  | _, _, .cons r rs, f => by
    rw [List.all_cons, Bool.and_eq_true] at f
    rw [List.countP_cons, List.countP_cons, cnt_flat ry fy rs f.2, eqU_of r f.1]
theorem mt_countF : MtR X "list.count" (rCntF X.K) := by
  intro pins s σ H x xs v us Q I rx rxs h
  obtain ⟨a, ys, y, rfl, rfl, hs, fy, fys, q⟩ := h
  cases rx
  obtain ⟨uy, rfl, ry⟩ := rxs.one
  obtain ⟨its, rv, ⟨⟨cls, dd, data, sl⟩, n, ho, hc, hdn, hd⟩, _⟩ := I.list hs
  simp only at hc hd
  subst hc hd
  refine call_meets PySem.F.slot_list_count ⟨_, ho, rfl⟩ PySem.F.entry_list_count (PySem.F.args_list_count_2 _ _)
    (SeqAt.list_countAt a its.toArray n dd sl uy (eqU y)) ⟨ho, fun u hu => mem_eqAt ry fy rv fys u (by simpa using hu), ?_⟩
  refine ⟨.int (ys.countP (fun z => eqV z y) : Nat), H, I.tok _, ⟨s.toks, ?_⟩, q⟩
  rw [show its.toArray.toList.countP (eqU y) = ys.countP (fun z => eqV z y) by rw [List.toList_toArray]; exact cnt_flat ry fy rv fys]
end
theorem tab_mk {K : Fg} {x : Str} {f C Pp : Addr} {oc o1 : Value} {od o2 : Option Addr} {fd : FuncData} {osl s2 : Array (Option Value)} {vs : Array Value} (a : PySem.W.nsIn K mainGlobals x = some (some (.ref f))) (l : K.lookup f = some ⟨oc, od, .func fd, osl⟩) (hc : fd.code = .ref C)
    (lc : K.lookup C = some ⟨o1, o2, .fields vs, s2⟩) (hv : (vs[11]? : Option Value) = some (.ref Pp)) : PySem.W.tabIn K x = some (C, Pp) := by
  unfold PySem.W.tabIn
  rw [a]
  dsimp only
  rw [l]
  dsimp only
  rw [hc]
  dsimp only
  rw [lc]
  dsimp only
  rw [hv]
theorem funC_mk {K : Fg} {x q : Str} {st : Stmt} {f C Pp : Addr} {oc : Value} {od an : Option Addr} {osl : Array (Option Value)} {kV doc pm ct : Value} (ti : PySem.W.tabIn K q = some (C, Pp))
    (l : K.lookup f = some ⟨oc, od, .func (PySem.W.fnOf x q (defArgs st) (defBody st) (defScope st) .none kV doc pm an (.ref C) ct), osl⟩) (c : PySem.W.codeIn K (.ref C) q = true) (k : PySem.W.keepIn K (.ref f) = true) :
    FunC K x q st f (PySem.W.fnOf x q (defArgs st) (defBody st) (defScope st) .none kV doc pm an (.ref (tabC K q)) ct) (tabC K q) := by
  rw [tabC_of ti]
  exact ⟨⟨oc, od, kV, doc, pm, an, ct, osl, rfl, l, c⟩, k⟩
/-- what is raised in a lambda's body goes to whoever called it, told over any name of the context -/
theorem lam_passE {X : Cx} {A : Around} {outer : List Env} {s : Shared} {H : Hp} {E : XK} {scope : Scope} {f d : Addr} {CC : _} (h : CC = L2.CX X.prog X.w := by rfl) : Passes CC (lamCx X A outer s H E scope f d) E := by
  subst h
  exact LM.lam_pass
/-- x(lambda: ..), the def told by its row -/
theorem pe_lmF {X : Cx} {TT : (XK → Hp → VK → Prop) → Hp → VK → Prop} {x a : Str} {g c P : Addr} {k : Nat} {st : Stmt} {fd : FuncData} {Ng : List Str} {params : Arguments} {body : Expr} {scope : Scope} {t : XK → TE} {p lpos pos : Pos} (hg : Gl X x) (hm : X.mg x = some (.ref g))
    (F : Fun X.K x x st g fd) (hb : Binds X.K fd [a] []) (Sg : FnScope Ng [a] (defScope st)) (hNg : Ng[0]? = some a) (hva : Vis (defScope st) a) (hG : ∀ cdg, Gives X Ng x (defScope st) g cdg (defBody st) a (X.env.qual ++ "<lambda>") (k + 1) TT)
    (tb : TabB X.base X.mg c P) (ec : X.env.code = .ref c) (hr : Room (k + 2) X.A) (L : LamS X.env.scope scope) (ed : defaultsOf params X.env = ([], [])) (eb : ∀ (q : Str) (cl : List (Str × Addr)) (pm cv ctv : Value), bindArgs (PySem.W.kla_fn "<lambda>" q params body scope cl pm cv ctv) ⟨[], []⟩ = pure [])
    (hbody : ∀ (A : Around) (outer : List Env) (s : Shared) (H : Hp) (E : XK) (f d : Addr), Room k (A.deeper (lamEnv X scope s.heap.objs.size f d)) → PE (lamCx X A outer s H E scope f d) body (t E))
    (hdb : (x == ("__debug__" : Str)) = false := by decide) (hd : (a == ("__debug__" : Str)) = false := by decide) (hcd : (a == ("__classdict__" : Str)) = false := by decide) :
    PE X (.Call (.Name x p) [.Lambda params body scope lpos] [] pos) (tLm P (X.env.qual ++ "<lambda>") TT t) := by
  obtain ⟨oc, od, kV, doc, pm, an, cdv, ct, osl, rfl, lk, hcd'⟩ := F.ex
  exact pe_lm hg hm F.kp lk hcd' hb Sg hNg hva (hG cdv) tb ec hr L ed eb hbody hdb hd hcd
/-- how the arguments of a def whose code object is known bind -/
theorem FunC.binds {K : Fg} {x qual : Str} {st : Stmt} {f c : Addr} {fd : FuncData} {ps : List Str} (F : FunC K x qual st f fd c)
    (h : ∀ (kV doc pm : Value) (an : Option Addr) (cdv ct : Value) (us : List Value), us.length = ps.length → bindArgs (PySem.W.fnOf x qual (defArgs st) (defBody st) (defScope st) .none kV doc pm an cdv ct) ⟨us, []⟩ = pure (ps.zip us)) : Binds K fd ps [] := by
  obtain ⟨oc, od, kV, doc, pm, an, ct, osl, rfl, lk, hcd⟩ := F.ex
  exact .all (h kV doc pm an (.ref c) ct)
end B
/-! B: the word of a refusal -/
namespace B
open PySem L2
open PySem.W (Tup T3 T4 Datum DatumOrd)
open Evl (Ex)
abbrev qLam (x : Str) : Str := x ++ ".<locals>." ++ "<lambda>"
def names12 : List Str := ["NoLetter", "NoTimes", "NoMany", "NoKeeper", "NoLetters", "NoFeed", "NoPast", "NoTally", "NoCount", "NoNumber", "NoDeed", "NoName"]
def words12 : List Str := ["letter", "times", "many", "keeper", "letters", "feed", "past", "tally", "count", "number", "deed", "name"]
theorem words12_eq : Txt.split "letter times many keeper letters feed past tally count number deed name" " " = words12 := by decide +kernel
/-- a class of refusals: what it is, among the twelve -/
structure Refd (K : Fg) (x : Str) : Prop where
  e : ExcC K (cErr K x)
  v : PySem.W.kitOne K (.ref (cErr K x)) (.type "ValueError") = some true
  l : PySem.W.exmOne K (.ref (cErr K x)) (.ref (cErr K "LeftError")) = some true
  ks : ∀ n ∈ names12, PySem.W.kitOne K (.ref (cErr K x)) (.ref (cErr K n)) = some (decide (n = x))
def AllK (K : Fg) (x : Str) : List Str → Prop
  | [] => True
  | n :: l => PySem.W.kitOne K (.ref (cErr K x)) (.ref (cErr K n)) = some (decide (n = x)) ∧ AllK K x l
theorem refd_mk {K : Fg} {x : Str} : ∀ l : List Str, AllK K x l → ∀ n ∈ l, PySem.W.kitOne K (.ref (cErr K x)) (.ref (cErr K n)) = some (decide (n = x))
  | [], _, n, h => by cases h
  | m :: l, ⟨h1, h2⟩, n, h => by
    rcases List.mem_cons.mp h with e | e
    · rw [e]; exact h1
    · exact refd_mk l h2 n e
/-- the fields of an error, if any, stand -/
def FldAt (W : Wd) (dd : Option Addr) : Prop := ∀ d, dd = some d → ∃ fs, W.H d = some (.xd fs)
theorem FldAt.gr {W W' : Wd} {dd : Option Addr} (h : FldAt W dd) (g : Grow W W') : FldAt W' dd := fun d e => by
  obtain ⟨fs, q⟩ := h d e
  exact ⟨fs, g.h _ _ q⟩
theorem FldAt.non (W : Wd) : FldAt W none := fun d e => by cases e
def sp__law_word (K : Fg) : Sp := fun vs H Q _ => (∃ W : Wd, W.H = H ∧ vs = [.non] ∧ ∀ W', Grow W W' → Q (.str "") W'.H) ∨
  (∃ (W : Wd) (a : Addr) (x : Str) (j : Nat) (w : Str) (dd : Option Addr), W.H = H ∧ vs = [.ref a] ∧ W.H a = some (BX.ExK (.ref (cErr K x)) dd a) ∧ FldAt W dd ∧ Refd K x ∧ names12[j]? = some x ∧ words12[j]? = some w ∧ ∀ W', Grow W W' → Q (.str w) W'.H)
theorem len__law_word {K : Fg} {vs : List V} {H : Hp} {Q : VK} {E : XK} (h : sp__law_word K vs H Q E) : vs.length = ["_law_error"].length := by
  rcases h with ⟨W, _, rfl, _⟩ | ⟨W, a, x, j, w, dd, _, rfl, _⟩ <;> rfl
/-- _law_word: the slots 0 _law_error, 1 _law_some, 2 _law_words -/
abbrev n__law_word : List Str := ["_law_error", "_law_some", "_law_words"]
def t__law_word (K : Fg) : TS := (tSeq (tIfS (tTest (tOp oIsN (tVar 0) (tC .non))) (tRet (tC (.str ""))) tNext)
  (tSeq (tAsg (tLst (tCons (tCB (BE.rIsF K) (tCons (tVar 0) (tCons (tC (.ref (cErr K "NoLetter"))) tNil))) (tCons (tCB (BE.rIsF K) (tCons (tVar 0) (tCons (tC (.ref (cErr K "NoTimes"))) tNil))) (tCons (tCB (BE.rIsF K) (tCons (tVar 0) (tCons (tC (.ref (cErr K "NoMany"))) tNil))) tNil)))) (gName 1))
  (tSeq (tAsg (tOp rCat (tVar 1) (tLst (tCons (tCB (BE.rIsF K) (tCons (tVar 0) (tCons (tC (.ref (cErr K "NoKeeper"))) tNil))) (tCons (tCB (BE.rIsF K) (tCons (tVar 0) (tCons (tC (.ref (cErr K "NoLetters"))) tNil))) (tCons (tCB (BE.rIsF K) (tCons (tVar 0) (tCons (tC (.ref (cErr K "NoFeed"))) tNil))) tNil))))) (gName 1))
  (tSeq (tAsg (tOp rCat (tVar 1) (tLst (tCons (tCB (BE.rIsF K) (tCons (tVar 0) (tCons (tC (.ref (cErr K "NoPast"))) tNil))) (tCons (tCB (BE.rIsF K) (tCons (tVar 0) (tCons (tC (.ref (cErr K "NoTally"))) tNil))) (tCons (tCB (BE.rIsF K) (tCons (tVar 0) (tCons (tC (.ref (cErr K "NoCount"))) tNil))) tNil))))) (gName 1))
  (tSeq (tAsg (tOp rCat (tVar 1) (tLst (tCons (tCB (BE.rIsF K) (tCons (tVar 0) (tCons (tC (.ref (cErr K "NoNumber"))) tNil))) (tCons (tCB (BE.rIsF K) (tCons (tVar 0) (tCons (tC (.ref (cErr K "NoDeed"))) tNil))) (tCons (tCB (BE.rIsF K) (tCons (tVar 0) (tCons (tC (.ref (cErr K "NoName"))) tNil))) tNil))))) (gName 1))
  (tSeq (tIfS (tOr (tTest (tOp rNe (tBM K "list" (rCntF K) (tVar 1) (tCons (tC (.bl true)) tNil)) (tC (.int 1)))) (tNot (tB (tCB (BE.rIsF K) (tCons (tVar 0) (tCons (tC (.ty "ValueError")) tNil)))))) (tRet (tC (.str "other"))) tNext)
  (tSeq (tAsg (tSplit K (tC (.str "letter times many keeper letters feed past tally count number deed name")) (tC (.str " "))) (gName 2))
  (tRet (tOp (rIxL K) (tVar 2) (tBM K "list" (rIndex K) (tVar 1) (tCons (tC (.bl true)) tNil)))))))))))
section
variable {K : Fg} {vs : List V} {H : Hp} {Q : VK} {E : XK} {W : Wd} {σ : SS} {te : TE} {ε : Ef}
theorem ev_isK {a : Addr} {x n : Str} {dd : Option Addr} (h0 : σ[0]? = some (some (.ref a))) (ha : W.H a = some (BX.ExK (.ref (cErr K x)) dd a)) (hf : FldAt W dd) (r : Refd K x) (hn : n ∈ names12) : EvR pur K (tCB (BE.rIsF K) (tCons (tVar 0) (tCons (tC (.ref (cErr K n))) tNil))) σ W (decide (n = x)) := fun W1 g1 Q k =>
  ⟨_, h0, a, cErr K x, dd, .ref (cErr K n), .ref (cErr K n), _, rfl, g1.pure.h a _ ha, hf.gr g1.pure, r.e, fun u h => by cases h; rfl, r.ks n hn, k _ W1 g1.rf rfl⟩
theorem ev_countB {bs : List Bool} (h : EvR ε K te σ W bs) : EvR ε K (tBM K "list" (rCntF K) te (tCons (tC (.bl true)) tNil)) σ W ((bs.countP id : Nat) : Int) := fun W1 g1 Q k => h W1 g1 _ fun v W2 g2 ⟨a, vs, e, s, r⟩ => by
  have e2 := reps_bl r
  subst e2
  subst e
  have sq := SqL.of (K := K) (W2.sub.el s)
  refine ⟨.inl ⟨rfl, _, sq⟩, a, bs.map V.bl, .bl true, rfl, rfl, sq, rfl, by rw [List.all_map]; simp [flatV], ?_⟩
  have : (bs.map V.bl).countP (fun z => eqV z (.bl true)) = bs.countP id := by
    rw [List.countP_map]
    congr 1
    funext b
    cases b <;> rfl
  rw [this]
  exact k _ W2 g2 rfl
theorem ev_indexB {bs : List Bool} {j : Nat} (h : EvR ε K te σ W bs) (hj : bs[j]? = some true) (hn : ∀ m, m < j → bs[m]? = some false) : EvR ε K (tBM K "list" (rIndex K) te (tCons (tC (.bl true)) tNil)) σ W (j : Int) := fun W1 g1 Q k => h W1 g1 _ fun v W2 g2 ⟨a, vs, e, s, r⟩ => by
  have e2 := reps_bl r
  subst e2
  subst e
  have sq := SqL.of (K := K) (W2.sub.el s)
  refine ⟨.inl ⟨rfl, _, sq⟩, a, bs.map V.bl, .bl true, j, .bl true, rfl, rfl, sq, rfl, by rw [List.all_map]; simp [flatV], by rw [List.getElem?_map, hj]; rfl, rfl, fun m z hm hz => ?_, k _ W2 g2 rfl⟩
  rw [List.getElem?_map, hn m hm] at hz
  cases hz
  rfl
def is12 (x : Str) : List Bool := names12.map fun n => decide (n = x)
theorem is12_at {j : Nat} {x : Str} (h : names12[j]? = some x) : (is12 x).countP id = 1 ∧ (is12 x)[j]? = some true ∧ ∀ m, m < j → (is12 x)[m]? = some false := by
  have all : ∀ i ∈ List.range 12, ∀ y, names12[i]? = some y → (is12 y).countP id = 1 ∧ (is12 y)[i]? = some true ∧ ∀ m ∈ List.range i, (is12 y)[m]? = some false := by
    have : ∀ i ∈ List.range 12, (is12 (names12[i]?.getD "")).countP id = 1 ∧ (is12 (names12[i]?.getD ""))[i]? = some true ∧ ∀ m ∈ List.range i, (is12 (names12[i]?.getD ""))[m]? = some false := by decide +kernel
    intro i hi y e
    have := this i hi
    rw [e] at this
    exact this
  have hj : j < 12 := (List.getElem?_eq_some_iff.mp h).1
  have := all j (List.mem_range.mpr hj) x h
  exact ⟨this.1, this.2.1, fun m hm => this.2.2 m (List.mem_range.mpr hm)⟩
theorem rd__law_word (h : sp__law_word K vs H Q E) : t__law_word K { nx := fun _ H' => Q .non H', rt := Q } (start n__law_word vs) H := by
  rcases h with ⟨W, rfl, rfl, k⟩ | ⟨W, a, x, j, w, dd, rfl, rfl, ha, hf, r, hj, hw, k⟩
  · exact ⟨_, rfl, rfl, true, rfl, k W (.refl [] W)⟩
  · obtain ⟨c1, c2, c3⟩ := is12_at hj
    have jl : j < 12 := (List.getElem?_eq_some_iff.mp hj).1
    have m : ∀ n : Str, n ∈ names12 → n ∈ names12 := fun _ h => h
    refine ⟨_, rfl, rfl, false, rfl, ?_⟩
    have eB : ∀ {W1 : Wd} {v : V}, Grow W W1 → ∀ n : Str, n ∈ names12 → EvR pur K (tCB (BE.rIsF K) (tCons (tVar 0) (tCons (tC (.ref (cErr K n))) tNil))) [some (.ref a), some v, none] W1 (decide (n = x)) := fun g n hn => ev_isK (σ := [_, _, _]) rfl (g.h a _ ha) (hf.gr g) r hn
    refine q_asg (ε := pur) (K := K) (W := W) (x := (is12 x).take 3) (ev_lst (ea_cons (ev_isK (σ := [_, _, _]) rfl ha hf r (by decide +kernel)) (ea_cons (ev_isK (σ := [_, _, _]) rfl ha hf r (by decide +kernel)) (ea_cons (ev_isK (σ := [_, _, _]) rfl ha hf r (by decide +kernel)) ea_nil))) (by show 3 ≤ 100000; decide)) trivial fun v1 W1 g1' r1 => ?_
    have g1 := g1'.pure
    refine q_asg (ε := pur) (K := K) (W := W1) (x := (is12 x).take 6) (ev_op (ev_var (i := 1) rfl r1) (ev_lst (ea_cons (eB g1 _ (by decide +kernel)) (ea_cons (eB g1 _ (by decide +kernel)) (ea_cons (eB g1 _ (by decide +kernel)) ea_nil))) (by show 3 ≤ 100000; decide)) (ro_cat (by show 3 + 3 ≤ 100000; decide))) trivial fun v2 W2 g2' r2 => ?_
    have g2 := g1.trans g2'.pure
    refine q_asg (ε := pur) (K := K) (W := W2) (x := (is12 x).take 9) (ev_op (ev_var (i := 1) rfl r2) (ev_lst (ea_cons (eB g2 _ (by decide +kernel)) (ea_cons (eB g2 _ (by decide +kernel)) (ea_cons (eB g2 _ (by decide +kernel)) ea_nil))) (by show 3 ≤ 100000; decide)) (ro_cat (by show 6 + 3 ≤ 100000; decide))) trivial fun v3 W3 g3' r3 => ?_
    have g3 := g2.trans g3'.pure
    refine q_asg (ε := pur) (K := K) (W := W3) (x := is12 x) (ev_op (ev_var (i := 1) rfl r3) (ev_lst (ea_cons (eB g3 _ (by decide +kernel)) (ea_cons (eB g3 _ (by decide +kernel)) (ea_cons (eB g3 _ (by decide +kernel)) ea_nil))) (by show 3 ≤ 100000; decide)) (ro_cat (by show 9 + 3 ≤ 100000; decide))) trivial fun v4 W4 g4' r4 => ?_
    have g4 := g3.trans g4'.pure
    have isV : EvR pur K (tCB (BE.rIsF K) (tCons (tVar 0) (tCons (tC (.ty "ValueError")) tNil))) [some (.ref a), some v4, none] W4 true := fun W5 g5 Q k =>
      ⟨_, rfl, a, cErr K x, dd, .ty "ValueError", .type "ValueError", true, rfl, (g4.trans g5.pure).h a _ ha, hf.gr (g4.trans g5.pure), r.e, fun u h => by cases h; rfl, r.v, k _ W5 g5.rf rfl⟩
    refine q_when (ε := pur) (b := false) ((et_or (a := false) ((et_test (ev_op (K := K) (ev_countB (ev_var (i := 1) rfl r4)) ev_int ro_neI)).is (by rw [c1]; rfl)) fun _ => et_not (et_B isV)).is rfl) trivial (fun z => by cases z) fun _ W5 g5' => ?_
    have g5 := g5'.pure
    refine q_asg (ε := pur) (K := K) (x := words12) ((en_split (a := "letter times many keeper letters feed past tally count number deed name") (b := " ") (by decide) (by decide +kernel)).toR.is words12_eq) trivial fun v6 W6 g6' r6 => ?_
    have g6 := g6'.pure
    refine s_ret (ε := pur) (K := K) (x := w) (ev_op (ev_var (i := 2) rfl r6) (ev_indexB (ev_var (i := 1) rfl (rep_g (g5.trans g6) r4)) c2 c3) (ro_ixL (atI_nat hw))) trivial fun u W7 g7 ru => ?_
    rw [show u = V.str w from ru]
    exact k W7 (g4.trans (g5.trans (g6.trans g7.pure)))
end
/-- what is refused is told by its word; errors with fields, too -/
theorem ev_refusedF {K : Fg} {CL C P : Addr} {sw : Sp} {t : XK → TE} {σ : SS} {W : Wd} {q : Str} {w : Str} (hx : PySem.W.exmOne K (.ref C) (.ref CL) = some true) (hw : ∀ (W : Wd) (a : Addr) (dd : Option Addr), W.H a = some (BX.ExK (.ref C) dd a) → FldAt W dd → ∀ Q : VK, (∀ W', Grow W W' → Q (.str w) W'.H) → sw [.ref a] W.H Q E0)
    (hb : ∀ W1, Md [P] W W1 → ∀ (E : XK) (Q : VK), (∀ W2 dd, Grow W1 W2 → FldAt W2 dd → E (.ref C) dd W2.H) → t E σ W1.H Q) : EvR (lamE P q) K (LM.tLm P q (TTref K CL sw) t) σ W w := fun W1 g1 Q k => by
  have t1 : TabAt W1 P q := g1.i
  refine ⟨t1.ts, fun H1 st => ?_⟩
  obtain ⟨W2, rfl, m2, t2⟩ := t1.step st
  refine fun f => hb W2 (g1.md.trans m2) _ _ fun W3 dd g3 hf => ⟨true, hx, fun _ a ha => ?_, fun z => by cases z⟩
  refine ⟨_, rfl, fun ha' => ?_⟩
  let W4 := W3.add a (BX.ExK (.ref C) dd a)
  have g4 : Grow W3 W4 := W3.grow_add ha'
  refine ⟨_, rfl, hw W4 a dd upd_same (hf.gr g4) Q fun W5 g5 => k _ W5 ⟨m2.trans (Grow.s (g3.trans (g4.trans g5))), t2.gr (g3.trans (g4.trans g5))⟩ rfl⟩
theorem wordF {K : Fg} {x : Str} {j : Nat} {w : Str} (rf : Refd K x) (hj : names12[j]? = some x) (hw : words12[j]? = some w) : ∀ (W : Wd) (a : Addr) (dd : Option Addr), W.H a = some (BX.ExK (.ref (cErr K x)) dd a) → FldAt W dd → ∀ Q : VK, (∀ W', Grow W W' → Q (.str w) W'.H) → sp__law_word K [.ref a] W.H Q E0 := fun W a dd ha hf Q q =>
  .inr ⟨W, a, x, j, w, dd, rfl, rfl, ha, hf, rf, hj, hw, q⟩
end B
/-! B: repr of a tuple, sorted of a tuple of texts -/
namespace B
open PySem L2 PySem.Spec PyProof.Rows
open PySem.W (Tup T3 T4 Datum DatumOrd)
open Evl (Ex)
/-- sorted(tuple of texts) -/
def rSortedST (K : Fg) : List V → Hp → VK → Prop := fun vs H Q => ∃ (a : Addr) (xs : List Str), vs = [V.ref a] ∧ SqT K H a (xs.map V.str) ∧ xs.length < 64 ∧ ∀ (ys : List Str) (p : Addr), ys.Perm xs → sortedS ys = true → H p = none → Q (.ref p) (upd H p (.lst (ys.map V.str)))
theorem cr_sortedST {X : Cx} : CallR X (.builtin "sorted") (rSortedST X.K) := by
  intro pins s σ H vs us Q I r h
  obtain ⟨a, xs, rfl, hs, h64, q⟩ := h
  obtain ⟨its, rv, ⟨o, ho, hc, n, hd⟩, _⟩ := I.tuple hs
  rw [Vals.ref1 r]
  have hlen0 := rv.length
  rw [List.length_map] at hlen0
  have hS := rv.strs
  refine Calls.call_function_entry kind_sorted plain_sorted entry_sorted (args_sorted1 _) ?_
  unfold Builtin.«sorted»
  refine wpAny_bind (m := checkCount "sorted" 1 1 _) (wpAny_pure ?_)
  refine wpAny_bind (wpAny_collect_seq a (.inr rfl) ho hc hd (fun h' hk => ?_) (by rw [List.size_toArray, ← hlen0]; exact small64 h64))
  refine wpAny_bind (wpAny_newList ?_ (by show its.length ≤ _; rw [← hlen0]; exact small64 h64))
  have hoL : (h'.push (seqObj "list" its.toArray 0)).get? h'.objs.size = some (seqObj "list" its.toArray 0) := Heap.get?_push_size _ rfl
  have I1 : Inv X pins σ H { s with heap := h' } := I.kept (t' := s.toks) hk
  show wpAny _ _ _ _ _ { s with heap := h'.push (seqObj "list" its.toArray 0) }
  refine wpAny_bind (wpAny_holding (wpAny_call_entry slot_list_sort ⟨_, hoL, rfl⟩ entry_list_sort (list_sort_treeK strKind_oneLt hoL hS.keysOf (fun v₁ v₂ rest e => keyKind_strs (by rw [← e]; exact hS)) (by rw [← hlen0]; exact h64) fun st' a1 a2 => ⟨_, rfl, ?_⟩) (args_list_sort _)))
  obtain ⟨ys, h1, h2, h3⟩ := sorted_out_str hS a1 a2
  obtain ⟨e', he'⟩ := PyProof.Rows.sortedHeap_at (vs := its) (out := (arrOf st').map (·.2)) hoL
  have hlen : (ys.map V.str).length ≤ sizeLine := by rw [List.length_map, h2.length_eq]; exact small64 h64
  refine wpAny_pure ⟨_, rfl, .ref h'.objs.size, upd H h'.objs.size (.lst (ys.map V.str)), I1.laid (t' := s.toks) (fun b u e => ?_) (Nat.le_refl _) (show ObjOk X.prog X.w _ _ _ (.lst (ys.map V.str)) from ⟨hlen, ((arrOf st').map (·.2)).toList, e', vals_of_strs h1, by rw [Array.toArray_toList]; exact he'⟩), rfl, q ys _ h2 h3 (I1.hok.fresh (Nat.le_refl _))⟩
  have hb : b < h'.objs.size := Heap.lt_size e
  show (sortedHeap _ _ _ ((arrOf st').map (·.2))).get? b = _
  rw [PyProof.Rows.sortedHeap_old (Nat.ne_of_lt hb) (by rw [size_push']; exact Nat.lt_succ_of_lt hb)]
  exact Heap.get?_push_of_some _ e
/-- repr(tuple) -/
def rReprT (K : Fg) : List V → Hp → VK → Prop := fun vs H Q => ∃ x d, vs = [x] ∧ Dp K H x (.tuple d) ∧ PyData.showableAll d = true ∧ PyData.hasDictAll d = false ∧ PyData.depthAll d ≤ 40 ∧ (tupleText (PyData.shownAll d)).length ≤ sizeLine ∧ Q (.str (tupleText (PyData.shownAll d))) H
section
variable {prog : Program} {w : World} {A : Around} {E : Value → Shared → Prop} {s : Shared}
theorem repr_tuple {v : Value} {d : List PyData} {az : List Addr} {Q : Value → Shared → Prop} (r : Reads s.heap v (.tuple d) az) (hs : PyData.showableAll d = true) (hd : PyData.hasDictAll d = false) (hg : A.guards = some []) (hu : A.units + 60 < cLine) (h40 : PyData.depthAll d ≤ 40) (hz : (tupleText (PyData.shownAll d)).length ≤ sizeLine)
    (hQ : ∀ h' u tk, (∀ b o, s.heap.get? b = some o → h'.get? b = some o) → Q (.str (tupleText (PyData.shownAll d)) u) { s with heap := h', toks := tk }) : wpAny (model prog w) A (call (.builtin "repr") [v]) Q E s := by
  have r0 := r
  cases r with
  | tuple h1 h2 h3 h4 =>
    rename_i a o vs n
    obtain ⟨bs, hb, hk⟩ := ReprAllK.of_readsAll (prog := prog) (w := w) h4 hs (fun hx => by rw [hd] at hx; cases hx) (fun t ht => Nat.le_trans (tupleText_mem_le ht) hz)
    have hna : a ∉ bs := not_mem_of_deeper r0 (by simp only [PyData.depth]; omega) hb
    have hTy : s.TypeIs (.ref a) "tuple" := ⟨o, h1, h2⟩
    refine call_repr_slot (by omega) hTy F.slot_tuple_repr ?_
    refine call_tuple_reprK h1 h2 h3 hna hk (show A.in1.guards = some [] from hg) (fun b _ => Clear.nil b) (by show A.units + 1 + _ < _; omega) (fun _ _ e => e) (fun h' u tk hk' => ⟨_, _, rfl, hQ h' u tk hk'⟩) hz
end
theorem cr_reprT {X : Cx} (hg : X.A.guards = some []) (hu : X.A.units + 64 < cLine) : CallR X (.builtin "repr") (rReprT X.K) := by
  intro pins s σ H xs us Q I r h
  obtain ⟨x, d, rfl, hd, h1, h2, h3, h4, q⟩ := h
  obtain ⟨u, rfl, ru⟩ := vals1 r
  obtain ⟨az, rd⟩ := Dp.reads I _ _ _ hd ru
  exact repr_tuple rd h1 h2 hg (by omega) h3 h4 fun h' u tk hk => ⟨.str _, H, I.kept hk, ⟨_, rfl⟩, q⟩
theorem pe_makeNE {X : Cx} {CX : CXT} {k n j : Nat} {f C : Addr} {fd : FuncData} {ps ks : List Str} {sp : Sp} {E : XK} {x : Str} {p pos : Pos} {e : Expr} {es : List Expr} {kws : List Keyword} {t tk : TA} {gV : List V → List V → List V} (M : Mk X.K C f) (F : FnOk X.prog X.w X.K X.mg X.base CX k f fd ps sp) (hr : Room (k + 1) X.A) (hg : Gl X x) (hm : X.mg x = some (.ref C)) (hb : ∃ g, KBn X.K fd ps (n + 1) ks g gV) (hx : Passes CX X E) (ha : PA X (e :: es) t) (hkw : PK X kws tk)
    (hall : (backToKw pos (keywordEach kws X.env)).all (·.1.isSome) = true := by rfl) (hks : (backToKw pos (keywordEach kws X.env)).filterMap (·.1) = ks := by rfl) (hdb : (x == ("__debug__" : Str)) = false := by decide) (hn : j = ks.length := by rfl)
    (he : starEach (e :: es) X.env = (false, eval e X.env) :: starEach es X.env := by rfl) (hpl : ((backTo pos (starEach (e :: es) X.env)).any (·.1) || (backToKw pos (keywordEach kws X.env)).any (·.1.isNone)) = false := by rfl) :
    PE X (.Call (.Name x p) (e :: es) kws pos) (tMakeK C n j sp gV E t tk) := by
  subst hn
  obtain ⟨g, hb⟩ := hb
  exact pe_makeK M F hr hg hm hb hx ha hkw hall hks hdb he hpl
end B
/-! marks, plainly: of the letters met so many of least rank -/
namespace B
open PySem L2
/-- of those of whom p is true the first m -/
def kp (names : List Str) (m : Nat) (p : Str → Bool) : List Str := (names.filter p).take m
theorem kp_gen {p q : Str → Bool} : ∀ (L : List Str), L.Nodup → ∀ k m : Nat, m ≤ k → (L.filter fun x => decide (x ∈ (L.filter p).take k) || q x).take m = (L.filter fun x => p x || q x).take m
  | [], _, k, m, _ => by simp
  | a :: L, n, k, 0, _ => by simp
  | a :: L, n, 0, m + 1, h => absurd h (by omega)
  | a :: L, n, k + 1, m + 1, h => by
    rw [List.nodup_cons] at n
    by_cases hp : p a = true
    · have e : ((a :: L).filter p).take (k + 1) = a :: (L.filter p).take k := by rw [List.filter_cons, if_pos hp, List.take_succ_cons]
      rw [e, List.filter_cons, if_pos (by simp), List.filter_cons, if_pos (by simp [hp]), List.take_succ_cons, List.take_succ_cons]
      congr 1
      have e2 : L.filter (fun x => decide (x ∈ a :: (L.filter p).take k) || q x) = L.filter (fun x => decide (x ∈ (L.filter p).take k) || q x) := List.filter_congr fun x hx => by
        have : x ≠ a := fun z => n.1 (z ▸ hx)
        simp [this]
      rw [e2]
      exact kp_gen L n.2 k m (by omega)
    · have e : (a :: L).filter p = L.filter p := by rw [List.filter_cons, if_neg hp]
      have ha : a ∉ (L.filter p).take (k + 1) := fun z => n.1 (List.mem_filter.mp (List.mem_of_mem_take z)).1
      rw [e]
      by_cases hq : q a = true
      · rw [List.filter_cons, if_pos (by simp [hq]), List.filter_cons, if_pos (by simp [hq]), List.take_succ_cons, List.take_succ_cons]
        congr 1
        exact kp_gen L n.2 (k + 1) m (by omega)
      · rw [List.filter_cons, if_neg (by simp [hq, ha]), List.filter_cons, if_neg (by simp [hq, hp])]
        exact kp_gen L n.2 (k + 1) (m + 1) h
/-- what is kept of these -/
def keepM (names : List Str) (m : Nat) (xs : List Str) : List Str := kp names m fun x => decide (x ∈ xs)
theorem keep_kp {names : List Str} (n : names.Nodup) {m k : Nat} (h : m ≤ k) (p : Str → Bool) (xs : List Str) : keepM names m (kp names k p ++ xs) = kp names m fun x => p x || decide (x ∈ xs) := by
  unfold keepM kp
  have e : names.filter (fun x => decide (x ∈ (names.filter p).take k ++ xs)) = names.filter (fun x => decide (x ∈ (names.filter p).take k) || decide (x ∈ xs)) := List.filter_congr fun x _ => by
    rw [← Bool.decide_or]
    exact decide_eq_decide.mpr List.mem_append
  rw [e]
  exact kp_gen names n k m h
theorem kp_take {names : List Str} {m k : Nat} (h : m ≤ k) (p : Str → Bool) : (kp names k p).take m = kp names m p := by
  unfold kp
  rw [List.take_take, Nat.min_eq_left h]
theorem kp_len (names : List Str) (m : Nat) (p : Str → Bool) : (kp names m p).length ≤ m := by
  unfold kp
  rw [List.length_take]; omega
theorem kp_mem {names : List Str} {m : Nat} {p : Str → Bool} {x : Str} (h : x ∈ kp names m p) : x ∈ names := (List.mem_filter.mp (List.mem_of_mem_take h)).1
theorem keep_two {names : List Str} (n : names.Nodup) {m k : Nat} (h : m ≤ k) (p q : Str → Bool) : keepM names m (kp names m p ++ kp names k q) = kp names m fun x => p x || q x := by
  rw [keep_kp n (Nat.le_refl m)]
  have e : (kp names m fun x => p x || decide (x ∈ kp names k q)) = kp names m fun x => decide (x ∈ kp names k q) || p x := by
    unfold kp
    rw [List.filter_congr (q := fun x => decide (x ∈ (names.filter q).take k) || p x) fun x _ => Bool.or_comm _ _]
  rw [e]
  unfold kp
  rw [kp_gen names n k m h]
  rw [List.filter_congr (q := fun x => p x || q x) fun x _ => Bool.or_comm _ _]
end B
/-! B: == and != of an own instance and a thing of any kind -/
namespace B
open PySem L2 PySem.Spec PyProof.Rows
section
variable {prog : Program} {w : World} {A : Around} {E : Value → Shared → Prop} {s : Shared} {K : Fg} {x C L f : Addr} {y : Value} {h₀ : Heap} {m : Str → Option Value} {ox : Obj} {od : Option Obj}
theorem ne_bodyA {Q : PySem.Fin → Shared → Prop} (X : K.In s.heap) (I : PySem.W.InstAt s.heap x ox C od) (hs : PySem.W.findIn K (.ref C) "__eq__" = some (some (.ref f))) (hf : PySem.W.isFn K (.ref f) = true) (hu : A.units < cLine)
    (h : wpAny (model prog w) A (call (.ref f) [.ref x, y]) (fun v s' => ∃ b, v = .bool b ∧ Q (.done (.ret (.bool (!b)))) s') E s) : wpAny (model prog w) A (Builtin.«object.__ne__» ⟨[.ref x, y], []⟩) Q E s := by
  unfold Builtin.«object.__ne__»
  repeat (first
    | with_reducible refine wpAny_cRoomFor hu ?_
    | (refine wpAny_bind (m := callSpecialIfBound? (.ref x) (Str.ofString "__eq__") [y]) (PySem.W.ifBound_K X I hs hf (wpAny_mono h (fun v s' hv => ?_) fun _ _ e => e)))
    | wp_step)
  obtain ⟨b, rfl, q⟩ := hv
  repeat (first | exact q | exact wpAny_pure q | exact wpAny_truthy_bool q | (refine wpAny_bind (m := truthy (.bool _)) (wpAny_truthy_bool ?_)) | wp_step)
end
section
variable {X : Cx} {CX : CXT} {k : Nat} {f C : Addr} {fd : FuncData} {ps : List Str} {sp : Sp} {E : XK}
/-- x == y, x an instance of the class at C, whose own __eq__ keeps the promise sp; y of any kind -/
def rInsEqA (K : Fg) (C : Addr) (sp : Sp) (E : XK) : R2 := fun x y H Q => ∃ a dx fs t, x = .ref a ∧ H a = some (.ins C dx fs) ∧ TyX K H y t ∧ PySem.W.notFirst K C t = true ∧ sp [x, y] H Q E
theorem op_insEqA (F : FnOk X.prog X.w X.K X.mg X.base CX k f fd ps sp) (hr : Room k X.A) (hm : Meth X.K C "__eq__" f) (hb : Binds X.K fd ps []) (hx : Passes CX X E) : OpR X (compareOp .Eq) (rInsEqA X.K C sp E) := by
  intro pins s σ H x y v u Q I rx ry h
  obtain ⟨a, dx, fs, t, rfl, ha, ty, hn, q⟩ := h
  cases (show v = Value.ref a from rx)
  obtain ⟨mA, J, _⟩ := ins_get I.hok ha
  obtain ⟨od, J, _⟩ := J.look
  obtain ⟨P, kx, hp, _⟩ := kit_of I ry ty
  obtain ⟨m, hF⟩ := I.fr
  show wpAny (model X.prog X.w) X.A (richCompare .Eq (.ref a) u) (EP X pins σ Q) X.xe s
  refine PySem.W.cmp_K (op := .Eq) (tb := t) hr.units0 hF I.ok.mod.kin J (kx.ty _ _ I.kIn hp) hn hm.at_ hm.fn ?_
  refine wpAny_mono (run_fn (us := [.ref a, u]) (vs := [.ref a, y]) (dvs := []) F hr hb .nil hx I (.cons rfl (.cons ry .nil)) q) (fun w s' z => ?_) fun _ _ x => x
  obtain ⟨z', H', I', rz, qz⟩ := z
  exact SlX.cmpback rz ⟨z', H', I', rz, qz⟩
/-- x != y -/
def rInsNeA (K : Fg) (C : Addr) (sp : Sp) (E : XK) : R2 := fun x y H Q => ∃ a dx fs t, x = .ref a ∧ H a = some (.ins C dx fs) ∧ TyX K H y t ∧ PySem.W.notFirst K C t = true ∧ sp [x, y] H (fun v H' => ∃ r, v = .bl r ∧ Q (.bl (!r)) H') E
theorem op_insNeA (F : FnOk X.prog X.w X.K X.mg X.base CX k f fd ps sp) (hr : Room (k + 1) X.A) (hm : Meth X.K C "__eq__" f) (hn : PySem.W.findIn X.K (.ref C) "__ne__" = some (some (.builtin "object.__ne__")))
    (ho : PySem.W.mroIn X.K C (.type "object") = some true) (hb : Binds X.K fd ps []) (hx : Passes CX X E) : OpR X (compareOp .NotEq) (rInsNeA X.K C sp E) := by
  intro pins s σ H x y v u Q I rx ry h
  obtain ⟨a, dx, fs, t, rfl, ha, ty, hnf, q⟩ := h
  cases (show v = Value.ref a from rx)
  obtain ⟨mA, J, _⟩ := ins_get I.hok ha
  obtain ⟨od, J, _⟩ := J.look
  obtain ⟨P, kx, hp, _⟩ := kit_of I ry ty
  obtain ⟨m, hF⟩ := I.fr
  have XK := I.kIn
  show wpAny (model X.prog X.w) X.A (richCompare .NotEq (.ref a) u) (EP X pins σ Q) X.xe s
  have own : wpAny (model X.prog X.w) X.A.in1 (call (.ref f) [.ref a, u]) (fun v s' => ∃ r, v = .bool r ∧ EP X pins σ Q (.bool (!r)) s') X.xe s := by
    have hl := F.len _ _ _ _ q
    have r2 : Vals [V.ref a, y] [Value.ref a, u] := .cons rfl (.cons ry .nil)
    refine wpAny_call (codeAny_mono (F.run X.A.in1 X.stack s H ⟨[.ref a, u], []⟩ [.ref a, u] [.ref a, y] _ E hr.in1 I.env0.in1 (by
      have := hb s [.ref a, u] I.kIn (by simpa using hl)
      simpa using this) r2 q) fun r s' hq => ?_)
    cases r with
    | error e => exact hx pins σ H s e s' I hq
    | ok fl =>
      cases fl with
      | ret w =>
        obtain ⟨z, H', I', rz, r, rfl, q'⟩ := I.after hq
        cases rz
        exact ⟨r, rfl, .bl (!r), H', I', rfl, q'⟩
      | next => exact False.elim hq
      | brk => exact False.elim hq
      | cont => exact False.elim hq
  have one : wpAny (model X.prog X.w) X.A (tryCompare (.ref a) "__ne__" u) (fun r s' => ∃ v, r = some v ∧ EP X pins σ Q v s') X.xe s := by
    unfold tryCompare
    refine wpAny_bind (ne_bound XK J hn (wpAny_call (codeAny_call_builtin PySem.F.cmp_object.ne.plain PySem.F.cmpEntry_ne (@PySem.W.check_slot (model X.prog X.w) _ _ s "object.__ne__" "object" "__ne__" (.ref a) [u] [] _ PySem.F.cmpKind_ne PySem.F.cmpSplit_ne
      (J.type.andThen (PySem.W.looks_mroIn XK ho)) (PySem.F.cmpArgs_ne _ _) ?_))))
    refine ne_bodyA (s := s) XK J hm.at_ hm.fn hr.in1.units0 (wpAny_mono own (fun v s' z => ?_) fun _ _ e => e)
    obtain ⟨r, rfl, z⟩ := z
    refine ⟨r, rfl, ?_⟩
    exact wpAny_pure ⟨_, rfl, z⟩
  unfold richCompare
  simp only [oneThing_ref]
  refine wpAny_holding (wpAny_bind (wpAny_cRoomFor hr.units0 ?_))
  refine wpAny_bind (J.type.here (wpAny_bind ((kx.ty _ _ I.kIn hp).here ?_)))
  split
  · rename_i q
    have e : PySem.W.subIn X.K t (.ref C) = some false := by
      rcases Bool.or_eq_true_iff.mp hnf with e | e
      · rw [beq_iff_eq.mp e] at q; simp at q
      · exact beq_iff_eq.mp e
    refine wpAny_bind ((PySem.W.looks_subIn XK e).here ?_)
    simp only [Bool.false_eq_true, if_false]
    refine wpAny_bind (wpAny_mono one (fun r s' z => ?_) fun _ _ e => e)
    obtain ⟨v, rfl, hq⟩ := z
    exact wpAny_pure hq
  · refine wpAny_bind (wpAny_pure ?_)
    simp only [Bool.false_eq_true, if_false]
    refine wpAny_bind (wpAny_mono one (fun r s' z => ?_) fun _ _ e => e)
    obtain ⟨v, rfl, hq⟩ := z
    exact wpAny_pure hq
end
end B
/-! marks: the class Marks -/
namespace B
open PySem L2
open PySem.W (Tup T3 T4 Datum DatumOrd)
open Evl (Ex)
structure MarksC (K : Fg) (C : Addr) : Prop where
  i : ClsI K C
  n1 : NoAttr K C "own_letters"
  n2 : NoAttr K C "mark_number"
  n3 : NoAttr K C "marked"
theorem m12 : ¬ (("own_letters" : Str) = "mark_number") := by decide +kernel
theorem m13 : ¬ (("own_letters" : Str) = "marked") := by decide +kernel
theorem m23 : ¬ (("mark_number" : Str) = "marked") := by decide +kernel
def mf (l : V) (n : Int) (v : V) : List (Str × V) := putF "marked" v (putF "mark_number" (.int n) (putF "own_letters" l []))
section
variable {l : V} {n : Int} {v : V}
theorem mf_l : (mf l n v).lookup ("own_letters" : Str) = some l := by
  unfold mf
  rw [lookup_putF, if_neg m13, lookup_putF, if_neg m12, lookup_putF, if_pos rfl]
theorem mf_n : (mf l n v).lookup ("mark_number" : Str) = some (.int n) := by
  unfold mf
  rw [lookup_putF, if_neg m23, lookup_putF, if_pos rfl]
theorem mf_k : (mf l n v).lookup ("marked" : Str) = some v := by
  unfold mf
  rw [lookup_putF, if_pos rfl]
theorem mf_no {m : Str} (h1 : ¬ m = "own_letters") (h2 : ¬ m = "mark_number") (h3 : ¬ m = "marked") : (mf l n v).lookup m = none := by
  unfold mf
  rw [lookup_putF, if_neg h3, lookup_putF, if_neg h2, lookup_putF, if_neg h1]
  all_goals rfl
theorem mf_eq : mf l n v = ([(("own_letters" : Str), l), (("mark_number" : Str), .int n), (("marked" : Str), v)] : List (Str × V)) := by
  unfold mf
  simp only [putF, if_neg m12, if_neg m13, if_neg m23]
theorem mf_putK {w : V} : putF "marked" w (mf l n v) = mf l n w := by
  rw [mf_eq, mf_eq]
  simp only [putF, if_neg m13, if_neg m23, if_pos]
theorem mf_putN {m : Int} : putF "mark_number" (.int m) (mf l n v) = mf l m v := by
  rw [mf_eq, mf_eq]
  simp only [putF, if_neg m12, if_pos]
theorem mf_len : (mf l n v).length < 1000 := by
  rw [mf_eq]
  show 3 < 1000
  decide
end
/-- marks stand at y: m may be kept, ks are -/
structure MarkAt (K : Fg) (CL CM : Addr) (W : Wd) (y : Addr) (names : List Str) (m : Nat) (ks : List Str) : Prop where
  b : W.B y = none
  ex : ∃ dy l v, W.H y = some (.ins CM dy (mf l m v)) ∧ LetAt K CL names l W ∧ rep K W.B v (Tup.mk ks)
section
variable {K : Fg} {CL CM : Addr} {W W' : Wd} {y : Addr} {names : List Str} {m : Nat} {ks : List Str} {S : List Addr} {ε : Ef} {σ : SS} {te ta : TE} {j : Nat}
theorem MarkAt.nt (r : MarkAt K CL CM W y names m ks) : Nt W.H y := by
  obtain ⟨dy, l, v, h, _⟩ := r.ex
  exact ⟨_, h, fun _ z => by cases z⟩
theorem MarkAt.g (r : MarkAt K CL CM W y names m ks) (g : Md S W W') (hy : y ∉ S) : MarkAt K CL CM W' y names m ks := by
  obtain ⟨dy, l, v, h, hl, rv⟩ := r.ex
  have q := g.mut hy h r.b
  exact ⟨q.2, dy, l, v, q.1, hl.g g, rep_g g rv⟩
theorem MarkAt.gr (r : MarkAt K CL CM W y names m ks) (g : Grow W W') : MarkAt K CL CM W' y names m ks := r.g g (by simp)
theorem MarkAt.al (r : MarkAt K CL CM W y names m ks) : Alpha names := by
  obtain ⟨dy, l, v, h, hl, rv⟩ := r.ex
  exact hl.al
def MStay (ε : Ef) (K : Fg) (CL CM : Addr) (W : Wd) (y : Addr) (names : List Str) (m : Nat) (ks : List Str) : Prop := ∀ W', Stp ε W W' → MarkAt K CL CM W' y names m ks
theorem MarkAt.pur (r : MarkAt K CL CM W y names m ks) : MStay pur K CL CM W y names m ks := fun _ g => r.gr g.pure
/-- fields, of any expression -/
theorem em_fld {α : Type} [Py α] {f : Str} {x : α} (c : MarksC K CM) (hn : NoAttr K CM f) (hd : EvR ε K te σ W (Raw.mk (.ref y))) (r : MStay ε K CL CM W y names m ks) (hf : ∀ (W' : Wd) (dy : Addr) (l v : V), W'.H y = some (.ins CM dy (mf l m v)) → rep K W'.B v (Tup.mk ks) → ∃ w, (mf l m v).lookup f = some w ∧ rep K W'.B w x) : EvR ε K (tFld K te f) σ W x := fun W1 g1 Q k => hd W1 g1 _ fun u W2 g2 e => by
  obtain ⟨dy, l, v, h, _, rv⟩ := (r _ (g1.trans g2)).ex
  obtain ⟨w, h1, h2⟩ := hf W2 dy l v h rv
  rw [show u = V.ref y from e]
  exact ⟨y, CM, dy, _, w, rfl, h, c.i.cl, hn, h1, k w W2 g2 h2⟩
theorem em_num (c : MarksC K CM) (hd : EvR ε K te σ W (Raw.mk (.ref y))) (r : MStay ε K CL CM W y names m ks) : EvR ε K (tFld K te "mark_number") σ W (m : Int) := em_fld c c.n2 hd r fun _ _ _ _ _ _ => ⟨_, mf_n, rfl⟩
theorem em_kept (c : MarksC K CM) (hd : EvR ε K te σ W (Raw.mk (.ref y))) (r : MStay ε K CL CM W y names m ks) : EvR ε K (tFld K te "marked") σ W (Tup.mk ks) := em_fld c c.n3 hd r fun _ _ _ _ _ rv => ⟨_, mf_k, rv⟩
theorem ep_mlet (c : MarksC K CM) (hd : EvR ε K te σ W (Raw.mk (.ref y))) (r : MStay ε K CL CM W y names m ks) : EvP ε (tFld K te "own_letters") σ W (LetAt K CL names) := fun W1 g1 Q k => hd W1 g1 _ fun u W2 g2 e => by
  obtain ⟨dy, l, v, h, hl, rv⟩ := (r _ (g1.trans g2)).ex
  rw [show u = V.ref y from e]
  exact ⟨y, CM, dy, _, l, rfl, h, c.i.cl, c.n1, mf_l, k l W2 g2 hl⟩
/-- a method of marks that leaves all as it is -/
theorem em_meth {R : V → Wd → Prop} {f : Str} {sp : Sp} (hd : EvR ε K te σ W (Raw.mk (.ref y))) (r : MStay ε K CL CM W y names m ks) (hm : ¬ f = "own_letters" ∧ ¬ f = "mark_number" ∧ ¬ f = "marked")
    (hs : ∀ W1, MarkAt K CL CM W1 y names m ks → ∀ Q : VK, (∀ u W2, Grow W1 W2 → R u W2 → Q u W2.H) → sp [.ref y] W1.H Q E0) : EvP ε (tMeth CM f sp [] E0 te tNil) σ W R := fun W1 g1 Q k => hd W1 g1 _ fun v W2 g2 e => by
  have r1 := r _ (g1.trans g2)
  obtain ⟨dy, l, w, h, _⟩ := r1.ex
  rw [show v = V.ref y from e]
  exact ⟨y, dy, _, rfl, h, mf_no hm.1 hm.2.1 hm.2.2, hs W2 r1 Q fun u W3 g3 hr => k u W3 (g2.and g3) hr⟩
/-- a method of marks with one value -/
theorem mcall1 {α : Type} [Py α] {a : α} {f : Str} {sp : Sp} {Q : VK} (hd : EvR pur K te σ W (Raw.mk (.ref y))) (r : MarkAt K CL CM W y names m ks) (hm : ¬ f = "own_letters" ∧ ¬ f = "mark_number" ∧ ¬ f = "marked") (ha : EvR pur K ta σ W a)
    (k : ∀ v W1, Grow W W1 → rep K W1.B v a → MarkAt K CL CM W1 y names m ks → sp [.ref y, v] W1.H Q E0) : tMeth CM f sp [] E0 te (tCons ta tNil) σ W.H Q := hd W (.start trivial) _ fun v W1 g1 e => by
  obtain ⟨dy, l, w, h, _⟩ := (r.gr g1.pure).ex
  rw [show v = V.ref y from e]
  exact ⟨y, dy, _, rfl, h, mf_no hm.1 hm.2.1 hm.2.2, ha W1 g1 _ fun v W2 g2 rv => k v W2 (g1.trans g2).pure rv (r.gr (g1.trans g2).pure)⟩
end
def NoMk (K : Fg) (CM : Addr) (v : V) (W : Wd) : Prop := ∃ t : Value, (∀ W', Grow W W' → TyX K W'.H v t) ∧ PySem.W.kitOne K t (.ref CM) = some false
theorem NoMk.gr {K : Fg} {CM : Addr} {v : V} {W W' : Wd} (h : NoMk K CM v W) (g : Grow W W') : NoMk K CM v W' := by
  obtain ⟨t, h1, h2⟩ := h
  exact ⟨t, fun W2 g2 => h1 W2 (g.trans g2), h2⟩
def sp_Marks___init__ (K : Fg) (CL CM : Addr) : Sp := fun vs H Q E => ∃ (W : Wd) (y dy : Addr) (v u : V) (names : List Str) (o : Odd), W.H = H ∧ vs = [.ref y, v, u] ∧ W.B y = none ∧ W.H y = some (.ins CM dy []) ∧ LetAt K CL names v W ∧ rep K W.B u o ∧
  ((∃ m : Nat, o = .int m ∧ 1 ≤ m ∧ m ≤ 8 ∧ ∀ W', Md [y] W W' → MarkAt K CL CM W' y names m [] → Q .non W'.H) ∨ ((∀ a : Int, o = .int a → ¬ (1 ≤ a ∧ a ≤ 8)) ∧ ∀ W', Grow W W' → E (.ref (cErr K "NoMany")) none W'.H))
theorem len_Marks___init__ {K : Fg} {CL CM : Addr} {vs : List V} {H : Hp} {Q : VK} {E : XK} (h : sp_Marks___init__ K CL CM vs H Q E) : vs.length = ["self", "letters", "many"].length := by
  obtain ⟨W, y, dy, v, u, names, o, _, rfl, _⟩ := h
  rfl
/-- Marks.__init__: the slots 0 self, 1 letters, 2 many -/
abbrev n_Marks___init__ : List Str := ["self", "letters", "many"]
def t_Marks___init__ (K : Fg) (c_Letters : Addr) (c_Marks : Addr) (E : XK) : TS := (tSeq (tDrop (tCall (sp_need_many K) [] E (tCons (tVar 2) (tCons (tC (.int 8)) tNil))))
  (tSeq (sFld K (tVar 0) (tVar 1) "own_letters")
  (tSeq (sFld K (tVar 0) (tVar 2) "mark_number")
  (sFld K (tVar 0) (tTup tNil) "marked"))))
def sp_Marks_letters (K : Fg) (CM : Addr) : Sp := fun vs H Q _ => ∃ (CL : Addr) (W : Wd) (y : Addr) (names : List Str) (m : Nat) (ks : List Str), W.H = H ∧ vs = [.ref y] ∧ MarkAt K CL CM W y names m ks ∧ ∀ v W', Grow W W' → LetAt K CL names v W' → Q v W'.H
theorem len_Marks_letters {K : Fg} {CM : Addr} {vs : List V} {H : Hp} {Q : VK} {E : XK} (h : sp_Marks_letters K CM vs H Q E) : vs.length = ["self"].length := by
  obtain ⟨CL, W, y, names, m, ks, _, rfl, _⟩ := h
  rfl
/-- Marks.letters: the slots 0 self -/
abbrev n_Marks_letters : List Str := ["self"]
def t_Marks_letters (K : Fg) (c_Marks : Addr) : TS := (tRet (tFld K (tVar 0) "own_letters"))
def sp_Marks_many (K : Fg) (CM : Addr) : Sp := fun vs H Q _ => ∃ (CL : Addr) (W : Wd) (y : Addr) (names : List Str) (m : Nat) (ks : List Str), W.H = H ∧ vs = [.ref y] ∧ MarkAt K CL CM W y names m ks ∧ ∀ W', Grow W W' → Q (.int m) W'.H
theorem len_Marks_many {K : Fg} {CM : Addr} {vs : List V} {H : Hp} {Q : VK} {E : XK} (h : sp_Marks_many K CM vs H Q E) : vs.length = ["self"].length := by
  obtain ⟨CL, W, y, names, m, ks, _, rfl, _⟩ := h
  rfl
/-- Marks.many: the slots 0 self -/
abbrev n_Marks_many : List Str := ["self"]
def t_Marks_many (K : Fg) (c_Marks : Addr) : TS := (tRet (tFld K (tVar 0) "mark_number"))
def sp_Marks_kept (K : Fg) (CM : Addr) : Sp := fun vs H Q _ => ∃ (CL : Addr) (W : Wd) (y : Addr) (names : List Str) (m : Nat) (ks : List Str), W.H = H ∧ vs = [.ref y] ∧ MarkAt K CL CM W y names m ks ∧ ∀ v W', Grow W W' → rep K W'.B v (Tup.mk ks) → Q v W'.H
theorem len_Marks_kept {K : Fg} {CM : Addr} {vs : List V} {H : Hp} {Q : VK} {E : XK} (h : sp_Marks_kept K CM vs H Q E) : vs.length = ["self"].length := by
  obtain ⟨CL, W, y, names, m, ks, _, rfl, _⟩ := h
  rfl
/-- Marks.kept: the slots 0 self -/
abbrev n_Marks_kept : List Str := ["self"]
def t_Marks_kept (K : Fg) (c_Marks : Addr) : TS := (tRet (tFld K (tVar 0) "marked"))
def sp_Marks_keep (K : Fg) (CL CM : Addr) : Sp := fun vs H Q _ => ∃ (W : Wd) (y : Addr) (v : V) (names : List Str) (m : Nat) (ks xs : List Str), W.H = H ∧ vs = [.ref y, v] ∧ MarkAt K CL CM W y names m ks ∧ rep K W.B v (Tup.mk xs) ∧ ∀ W', Md [y] W W' → MarkAt K CL CM W' y names m (keepM names m xs) → Q .non W'.H
theorem len_Marks_keep {K : Fg} {CL CM : Addr} {vs : List V} {H : Hp} {Q : VK} {E : XK} (h : sp_Marks_keep K CL CM vs H Q E) : vs.length = ["self", "names"].length := by
  obtain ⟨W, y, v, names, m, ks, xs, _, rfl, _⟩ := h
  rfl
/-- Marks.keep: the slots 0 self, 1 names, 2 some, 3 name -/
abbrev n_Marks_keep : List Str := ["self", "names", "some", "name"]
def t_Marks_keep (K : Fg) (c_Letters : Addr) (c_Marks : Addr) : TS := (tSeq (tAsg (tLc (iList K (tMeth c_Letters "ranked" (sp_Letters_ranked K c_Letters) [] E0 (tFld K (tVar 0) "own_letters") tNil)) (gName 3) (tTest (tOp (rInTT K false) (tVar 3) (tVar 1))) (tVar 3) [3]) (gName 2))
  (sFld K (tVar 0) (tCB (rTupleO K) (tCons (tSl (rSlL K) (tVar 2) tNoPart (tPart (tFld K (tVar 0) "mark_number"))) tNil)) "marked"))
def sp_Marks_meet (K : Fg) (CL CM : Addr) : Sp := fun vs H Q E => ∃ (W : Wd) (y : Addr) (u : V) (names : List Str) (m : Nat) (ks : List Str) (b : Bool), W.H = H ∧ vs = [.ref y, u] ∧ MarkAt K CL CM W y names m ks ∧ LetK K u b W ∧ ks.length ≤ 1000 ∧
  ((∃ name : Str, u = .str name ∧ name ∈ names ∧ ∀ W', Md [y] W W' → MarkAt K CL CM W' y names m (keepM names m (ks ++ [name])) → Q .non W'.H) ∨ (hasB names u = false ∧ ∀ W' dd, Grow W W' → W'.H dd = some (.xd [("name", u)]) → E (.ref (cErr K "NoLetter")) (some dd) W'.H))
theorem len_Marks_meet {K : Fg} {CL CM : Addr} {vs : List V} {H : Hp} {Q : VK} {E : XK} (h : sp_Marks_meet K CL CM vs H Q E) : vs.length = ["self", "letter"].length := by
  obtain ⟨W, y, u, names, m, ks, b, _, rfl, _⟩ := h
  rfl
/-- Marks.meet: the slots 0 self, 1 letter -/
abbrev n_Marks_meet : List Str := ["self", "letter"]
def t_Marks_meet (K : Fg) (c_Letters : Addr) (c_Marks : Addr) (E : XK) : TS := (tSeq (tDrop (tMeth c_Letters "rank" (sp_Letters_rank K c_Letters) [] E (tFld K (tVar 0) "own_letters") (tCons (tVar 1) tNil)))
  (tDrop (tMeth c_Marks "keep" (sp_Marks_keep K c_Letters c_Marks) [] E0 (tVar 0) (tCons (tOp (rCatA K) (tFld K (tVar 0) "marked") (tTup (tCons (tVar 1) tNil))) tNil))))
def sp_Marks_made_smaller (K : Fg) (CM : Addr) : Sp := fun vs H Q E => ∃ (CL : Addr) (W : Wd) (y : Addr) (names : List Str) (n : Nat) (ks : List Str) (u : V) (o : Odd), W.H = H ∧ vs = [.ref y, u] ∧ MarkAt K CL CM W y names n ks ∧ rep K W.B u o ∧
  ((∃ m : Nat, o = .int m ∧ 1 ≤ m ∧ m ≤ n ∧ ∀ W', Md [y] W W' → MarkAt K CL CM W' y names m (ks.take m) → Q .non W'.H) ∨ ((∀ a : Int, o = .int a → ¬ (1 ≤ a ∧ a ≤ (n : Int))) ∧ ∀ W', Grow W W' → E (.ref (cErr K "NoMany")) none W'.H))
theorem len_Marks_made_smaller {K : Fg} {CM : Addr} {vs : List V} {H : Hp} {Q : VK} {E : XK} (h : sp_Marks_made_smaller K CM vs H Q E) : vs.length = ["self", "many"].length := by
  obtain ⟨CL, W, y, names, n, ks, u, o, _, rfl, _⟩ := h
  rfl
/-- Marks.made_smaller: the slots 0 self, 1 many -/
abbrev n_Marks_made_smaller : List Str := ["self", "many"]
def t_Marks_made_smaller (K : Fg) (c_Marks : Addr) (E : XK) : TS := (tSeq (tDrop (tCall (sp_need_many K) [] E (tCons (tVar 1) (tCons (tFld K (tVar 0) "mark_number") tNil))))
  (tSeq (sFld K (tVar 0) (tVar 1) "mark_number")
  (sFld K (tVar 0) (tSl (rSlA K) (tFld K (tVar 0) "marked") tNoPart (tPart (tVar 1))) "marked")))
def sp_Marks_pour (K : Fg) (CL CM : Addr) : Sp := fun vs H Q E => (∃ (W : Wd) (y z : Addr) (names : List Str) (m k : Nat) (ks ls : List Str), W.H = H ∧ vs = [.ref y, .ref z] ∧ MarkAt K CL CM W y names m ks ∧ MarkAt K CL CM W z names k ls ∧ 1 ≤ m ∧ 1 ≤ k ∧ ks.length ≤ m ∧ ls.length ≤ k ∧ m ≤ 1000 ∧ k ≤ 1000 ∧
  ∀ W', Md [y] W W' → MarkAt K CL CM W' y names (min m k) (keepM names (min m k) (ks.take (min m k) ++ ls)) → Q .non W'.H) ∨
  (∃ (W : Wd) (y : Addr) (u : V) (names : List Str) (m : Nat) (ks : List Str), W.H = H ∧ vs = [.ref y, u] ∧ MarkAt K CL CM W y names m ks ∧ (NoMk K CM u W ∨ ∃ (z : Addr) (n2 : List Str) (n : Nat) (ls : List Str), u = .ref z ∧ MarkAt K CL CM W z n2 n ls ∧ names ≠ n2) ∧
    ∀ W', Grow W W' → E (.ref (cErr K "NoKeeper")) none W'.H)
theorem len_Marks_pour {K : Fg} {CL CM : Addr} {vs : List V} {H : Hp} {Q : VK} {E : XK} (h : sp_Marks_pour K CL CM vs H Q E) : vs.length = ["self", "other"].length := by
  rcases h with ⟨W, y, z, names, m, k, ks, ls, _, rfl, _⟩ | ⟨W, y, u, names, m, ks, _, rfl, _⟩ <;> rfl
/-- Marks.pour: the slots 0 self, 1 other -/
abbrev n_Marks_pour : List Str := ["self", "other"]
def t_Marks_pour (K : Fg) (c_Letters : Addr) (c_Marks : Addr) (E : XK) : TS := (tSeq (tIfS (tOr (tNot (tB (tCB (rIsi K) (tCons (tVar 1) (tCons (tC (.ref c_Marks)) tNil))))) (tTest (tOp (rInsNe c_Letters (sp_Letters___eq__ K c_Letters) E0) (tFld K (tVar 0) "own_letters") (tMeth c_Marks "letters" (sp_Marks_letters K c_Marks) [] E0 (tVar 1) tNil)))) (BX.tRaiseO (cErr K "NoKeeper") E) tNext)
  (tSeq (tDrop (tMeth c_Marks "made_smaller" (sp_Marks_made_smaller K c_Marks) [] E (tVar 0) (tCons (tCB rMin2 (tCons (tFld K (tVar 0) "mark_number") (tCons (tMeth c_Marks "many" (sp_Marks_many K c_Marks) [] E0 (tVar 1) tNil) tNil))) tNil)))
  (tDrop (tMeth c_Marks "keep" (sp_Marks_keep K c_Letters c_Marks) [] E0 (tVar 0) (tCons (tOp (rCatA K) (tFld K (tVar 0) "marked") (tMeth c_Marks "kept" (sp_Marks_kept K c_Marks) [] E0 (tVar 1) tNil)) tNil)))))
def sp_Marks_full (K : Fg) (CM : Addr) : Sp := fun vs H Q _ => ∃ (CL : Addr) (W : Wd) (y : Addr) (names : List Str) (m : Nat) (ks : List Str), W.H = H ∧ vs = [.ref y] ∧ MarkAt K CL CM W y names m ks ∧ ∀ W', Grow W W' → Q (.bl (decide ((ks.length : Int) = (m : Int)))) W'.H
theorem len_Marks_full {K : Fg} {CM : Addr} {vs : List V} {H : Hp} {Q : VK} {E : XK} (h : sp_Marks_full K CM vs H Q E) : vs.length = ["self"].length := by
  obtain ⟨CL, W, y, names, m, ks, _, rfl, _⟩ := h
  rfl
/-- Marks.full: the slots 0 self -/
abbrev n_Marks_full : List Str := ["self"]
def t_Marks_full (K : Fg) (c_Marks : Addr) : TS := (tRet (tOp rEq (tCB (rLen K) (tCons (tFld K (tVar 0) "marked") tNil)) (tFld K (tVar 0) "mark_number")))
def sp_Marks_twin (K : Fg) (CL CM : Addr) : Sp := fun vs H Q _ => ∃ (W : Wd) (y : Addr) (names : List Str) (m : Nat) (ks : List Str), W.H = H ∧ vs = [.ref y] ∧ MarkAt K CL CM W y names m ks ∧ 1 ≤ m ∧ m ≤ 8 ∧ ∀ z W', Grow W W' → MarkAt K CL CM W' z names m ks → W.H z = none → Q (.ref z) W'.H
theorem len_Marks_twin {K : Fg} {CL CM : Addr} {vs : List V} {H : Hp} {Q : VK} {E : XK} (h : sp_Marks_twin K CL CM vs H Q E) : vs.length = ["self"].length := by
  obtain ⟨W, y, names, m, ks, _, rfl, _⟩ := h
  rfl
/-- Marks.twin: the slots 0 self, 1 made -/
abbrev n_Marks_twin : List Str := ["self", "made"]
def t_Marks_twin (K : Fg) (c_Letters : Addr) (c_Marks : Addr) : TS := (tSeq (tAsg (tMake c_Marks (sp_Marks___init__ K c_Letters c_Marks) [] E0 (tCons (tFld K (tVar 0) "own_letters") (tCons (tFld K (tVar 0) "mark_number") tNil))) (gName 1))
  (tSeq (sFld K (tVar 1) (tFld K (tVar 0) "marked") "marked")
  (tRet (tVar 1))))
def sp_Marks___eq__ (K : Fg) (CL CM : Addr) : Sp := fun vs H Q _ => ∃ (W : Wd) (y : Addr) (names : List Str) (m : Nat) (ks : List Str) (u : V), W.H = H ∧ vs = [.ref y, u] ∧ MarkAt K CL CM W y names m ks ∧
  ((∃ (z : Addr) (n2 : List Str) (n : Nat) (ls : List Str), u = .ref z ∧ MarkAt K CL CM W z n2 n ls ∧ ∀ W', Grow W W' → Q (.bl (decide (names = n2) && decide (((m : Int), Tup.mk ks) = ((n : Int), Tup.mk ls)))) W'.H) ∨ (NoMk K CM u W ∧ ∀ W', Grow W W' → Q (.bl false) W'.H))
theorem len_Marks___eq__ {K : Fg} {CL CM : Addr} {vs : List V} {H : Hp} {Q : VK} {E : XK} (h : sp_Marks___eq__ K CL CM vs H Q E) : vs.length = ["self", "other"].length := by
  obtain ⟨W, y, names, m, ks, u, _, rfl, _⟩ := h
  rfl
/-- Marks.__eq__: the slots 0 self, 1 other -/
abbrev n_Marks___eq__ : List Str := ["self", "other"]
def t_Marks___eq__ (K : Fg) (c_Letters : Addr) (c_Marks : Addr) : TS := (tSeq (tIfS (tOr (tNot (tB (tCB (rIsi K) (tCons (tVar 1) (tCons (tC (.ref c_Marks)) tNil))))) (tTest (tOp (rInsNe c_Letters (sp_Letters___eq__ K c_Letters) E0) (tFld K (tVar 0) "own_letters") (tMeth c_Marks "letters" (sp_Marks_letters K c_Marks) [] E0 (tVar 1) tNil)))) (tRet (tC (.bl false))) tNext)
  (tRet (tOp (rEqT K false) (tTup (tCons (tMeth c_Marks "many" (sp_Marks_many K c_Marks) [] E0 (tVar 0) tNil) (tCons (tMeth c_Marks "kept" (sp_Marks_kept K c_Marks) [] E0 (tVar 0) tNil) tNil))) (tTup (tCons (tMeth c_Marks "many" (sp_Marks_many K c_Marks) [] E0 (tVar 1) tNil) (tCons (tMeth c_Marks "kept" (sp_Marks_kept K c_Marks) [] E0 (tVar 1) tNil) tNil))))))
section
variable {K : Fg} {vs : List V} {H : Hp} {Q : VK} {E : XK} {CL CM : Addr}
/-- a slice of a tuple -/
theorem ev_slT {α : Type} [Py α] {ε : Ef} {W : Wd} {σ : SS} {te : TE} {tl th : TO} {xs : Tup α} {lo hi : Option Int} (h : EvR ε K te σ W xs) (h1 : EvO ε tl σ W lo) (h2 : EvO ε th σ W hi) : EvR ε K (tSl (rSlA K) te tl th) σ W (Tup.mk (cutL xs.items lo hi)) := fun W1 g1 Q k =>
  h W1 g1 _ fun v W2 g2 rx => h1 W2 (g1.trans g2) _ fun W3 g3 => h2 W3 ((g1.trans g2).trans g3) _ fun W4 g4 => by
    obtain ⟨a, vs, e, s, r⟩ := rep_s g4 (rep_s g3 rx)
    have G := (g2.trans g3).trans g4
    have rc : Reps K W4.B (cutV vs lo hi) (cutL xs.items lo hi) := by
      unfold cutV cutL
      rw [Reps.len r]
      exact Reps.take _ (Reps.drop _ r)
    refine ⟨a, vs, e, SqT.of (W4.sub.et s), ?_⟩
    exact ⟨fun e => k _ W4 G ⟨a, vs, rfl, s, by
      have : cutV vs lo hi = vs := by unfold cutV; rw [e.1, e.2]; simp
      rw [this] at rc; exact rc⟩, fun _ p hp => k _ (W4.add p _) (G.and (W4.grow_add hp)) ⟨p, _, rfl, upd_same, Reps.mono (exExt (W4.grow_add hp).b) rc⟩⟩
/-- marks with another field's value -/
theorem MarkAt.putK {W W' : Wd} {y : Addr} {names : List Str} {m : Nat} {ks ls : List Str} (g : Md [y] W W') {dy : Addr} {l v w : V} (hb : W'.B y = none) (hh : W'.H y = some (.ins CM dy (putF "marked" w (mf l m v)))) (hl : LetAt K CL names l W') (rw' : rep K W'.B w (Tup.mk ls)) : MarkAt K CL CM W' y names m ls :=
  ⟨hb, dy, l, w, by rw [hh, mf_putK], hl, rw'⟩
theorem rd_Marks___init__ (cl : LettersC K CL) (c : MarksC K CM) (h : sp_Marks___init__ K CL CM vs H Q E) : t_Marks___init__ K CL CM E { nx := fun _ H' => Q .non H', rt := Q } (start n_Marks___init__ vs) H := by
  obtain ⟨W, y, dy, v, u, names, o, rfl, rfl, hb, hh, hl, ru, h⟩ := h
  rcases h with ⟨m, rfl, h1, h8, k⟩ | ⟨bad, k⟩
  rotate_left
  · exact s_needBad (ev_var (i := 2) rfl ru) (ev_int (n := 8)) bad k
  obtain rfl : u = V.int m := ru
  refine q_drop (ε := pur) (ev_needMany (ev_var rfl (x := (m : Int)) rfl) (ev_int (n := 8)) (by omega) (by omega)) trivial fun _ W1 g1' _ => ?_
  have g1 := g1'.pure
  have m1 := g1.mut (by simp) hh hb
  refine q_fldP c.i.cl c.n1 rfl m1.2 m1.1 (by show 0 < 1000; decide) (ep_var (i := 1) rfl (hl.g g1) fun W' g => LetAt.s (ε := pur) (hl.g g1) g) fun v2 W1' W2 g1'' hl2 m2 o2 _ _ b2 hh2 => ?_
  refine q_fld (K := K) (y := (m : Int)) c.i.cl c.n2 rfl b2 hh2 (by show 1 < 1000; decide) (ev_var (i := 2) rfl rfl) fun v3 W3 m3 o3 b3 hh3 r3 => ?_
  rw [show v3 = _ from r3] at hh3
  refine s_fldP (P := fun v W => rep K W.B v (Tup.mk ([] : List Str))) c.i.cl c.n3 rfl b3 hh3 (by show 2 < 1000; decide) (ev_tupN ea_nil (by decide)).p fun v4 W4 W5 g4 r4 m5 o5 _ _ b5 hh5 => ?_
  have M : Md [y] W W5 := ((((Grow.s g1).trans (Grow.s g1'')).trans m2).trans m3).trans ((Grow.s g4).trans m5)
  exact k W5 M ⟨b5, dy, v2, v4, hh5, (((hl2.on o2).on o3).g g4).on o5, rep_on o5 r4⟩
theorem rd_Marks_letters (c : MarksC K CM) (h : sp_Marks_letters K CM vs H Q E) : t_Marks_letters K CM { nx := fun _ H' => Q .non H', rt := Q } (start n_Marks_letters vs) H := by
  obtain ⟨CL, W, y, names, m, ks, rfl, rfl, r, k⟩ := h
  exact s_retP (ε := pur) (ep_mlet c (ev_rvar (i := 0) rfl) r.pur) trivial fun v W' g hl => k v W' g.pure hl
theorem rd_Marks_many (c : MarksC K CM) (h : sp_Marks_many K CM vs H Q E) : t_Marks_many K CM { nx := fun _ H' => Q .non H', rt := Q } (start n_Marks_many vs) H := by
  obtain ⟨CL, W, y, names, m, ks, rfl, rfl, r, k⟩ := h
  refine s_ret (ε := pur) (K := K) (em_num c (ev_rvar (i := 0) rfl) r.pur) trivial fun v W' g rv => ?_
  rw [show v = _ from rv]
  exact k W' g.pure
theorem rd_Marks_kept (c : MarksC K CM) (h : sp_Marks_kept K CM vs H Q E) : t_Marks_kept K CM { nx := fun _ H' => Q .non H', rt := Q } (start n_Marks_kept vs) H := by
  obtain ⟨CL, W, y, names, m, ks, rfl, rfl, r, k⟩ := h
  exact s_ret (ε := pur) (K := K) (em_kept c (ev_rvar (i := 0) rfl) r.pur) trivial fun v W' g rv => k v W' g.pure rv
theorem ej_ranked {W : Wd} {σ : SS} {te : TE} {ε : Ef} {names : List Str} (h : EvP ε te σ W (LetAt K CL names)) : EvR ε K (tMeth CL "ranked" (sp_Letters_ranked K CL) [] E0 te tNil) σ W names :=
  ep_lmeth (R := fun v W => rep K W.B v names) h (by decide +kernel) fun v W1 g hl Q k => ⟨W1, v, names, rfl, rfl, hl, fun u W' g' r => k u W' (.and (.start g.i) g') r⟩
theorem rd_Marks_keep (cl : LettersC K CL) (c : MarksC K CM) (h : sp_Marks_keep K CL CM vs H Q E) : t_Marks_keep K CL CM { nx := fun _ H' => Q .non H', rt := Q } (start n_Marks_keep vs) H := by
  obtain ⟨W, y, v, names, m, ks, xs, rfl, rfl, r, rv, k⟩ := h
  have al := r.al
  have l2 := al.hi
  refine q_asg (ε := pur) (K := K) (x := names.filter fun x => decide (x ∈ xs)) ((ev_lcNt (p := fun x => decide (x ∈ xs)) (f := fun x => x) (ei_list (ej_ranked (CL := CL) (ep_mlet c (ev_rvar (i := 0) rfl) r.pur))).i (fun x v2 W' hx g rx => et_test (ev_op (x := x) (y := Tup.mk xs) (ev_var (i := 3) rfl rx) (ev_var (i := 1) rfl (rep_s g rv)) (ro_inT (by decide)))) (fun x v2 W' hx hp g rx => ev_var (i := 3) rfl rx) (by omega)).is (by rw [List.map_id'])) trivial fun v2 W1 g1' r2 => ?_
  have g1 := g1'.pure
  obtain ⟨dy, l, w, hh, hl, rw'⟩ := (r.gr g1).ex
  have fl := List.length_filter_le (fun x => decide (x ∈ xs)) names
  refine s_fldP (P := fun v W => rep K W.B v (Tup.mk (keepM names m xs))) c.i.cl c.n3 rfl (r.gr g1).b hh mf_len ((ev_cb1 (ev_slL (ev_var (i := 2) rfl r2) eo_none (eo_some (em_num c (ev_rvar (i := 0) rfl) (r.gr g1).pur))) rc_tupL).is (by rw [cut_toN]; rfl)).p fun v4 W4 W5 g4 r4 m5 o5 b4 h4 b5 hh5 => ?_
  exact k W5 ((Grow.s g1).trans ((Grow.s g4).trans m5)) (MarkAt.putK (ks := ks) m5 b5 hh5 ((hl.g g4).on o5) (rep_on o5 r4))
theorem s_rankM {W : Wd} {σ : SS} {te : TE} {names : List Str} {u : V} {l : Nat} {tz : TS} {D : Ends} {b : Bool} (e0 : EvP pur te σ W (LetAt K CL names)) (h1 : σ[l]? = some (some u)) (hk : LetK K u b W)
    (h : (∃ name, u = .str name ∧ name ∈ names ∧ ∀ W', Grow W W' → tz D σ W'.H) ∨ (hasB names u = false ∧ ∀ W' dd, Grow W W' → W'.H dd = some (.xd [("name", u)]) → E (.ref (cErr K "NoLetter")) (some dd) W'.H)) :
    tSeq (tDrop (tMeth CL "rank" (sp_Letters_rank K CL) [] E te (tCons (tVar l) tNil))) tz D σ W.H := by
  unfold tSeq tDrop tMeth
  refine e0 W (.start trivial) _ fun v W2 g2 hl => ?_
  obtain ⟨l', dl, rr, e, z1, z2, z3⟩ := id hl
  refine ⟨l', dl, _, e, W2.sub.ins z1, by rw [lookup_putF, if_neg (by decide +kernel)]; all_goals rfl, _, h1, W2, v, u, names, b, rfl, rfl, hl, hk.gr g2.pure, ?_⟩
  rcases h with ⟨name, rfl, hn, k⟩ | ⟨hno, k⟩
  · exact .inl ⟨name, rfl, hn, fun i W' g _ => k W' (g2.pure.trans g)⟩
  · exact .inr ⟨hno, fun W' dd g => k W' dd (g2.pure.trans g)⟩
theorem rd_Marks_meet (cl : LettersC K CL) (c : MarksC K CM) (h : sp_Marks_meet K CL CM vs H Q E) : t_Marks_meet K CL CM E { nx := fun _ H' => Q .non H', rt := Q } (start n_Marks_meet vs) H := by
  obtain ⟨W, y, u, names, m, ks, b, rfl, rfl, r, lk, hk, h⟩ := h
  have eS : ∀ {i : Str} {W : Wd}, rep K W.B (V.str i) i := rfl
  have e0 : EvP pur (tFld K (tVar 0) "own_letters") [some (.ref y), some u] W (LetAt K CL names) := ep_mlet c (ev_rvar (i := 0) rfl) r.pur
  rcases h with ⟨name, rfl, hn, k⟩ | ⟨hno, k⟩
  rotate_left
  · exact s_rankM e0 (l := 1) rfl lk (.inr ⟨hno, k⟩)
  refine s_rankM e0 (l := 1) rfl lk (.inl ⟨name, rfl, hn, fun W1 g1 => ?_⟩)
  exact mcall1 (a := Tup.mk (ks ++ [name])) (ev_rvar (i := 0) rfl) (r.gr g1) (by decide +kernel) (ev_op (em_kept c (ev_rvar (i := 0) rfl) (r.gr g1).pur) (ev_tupN (ea_cons (ev_var (i := 1) rfl eS) ea_nil) (by show 1 ≤ 100000; decide)) (ro_catT (by show ks.length + 1 ≤ 100000; omega))) fun v W2 g2 rv r2 => ⟨W2, y, v, names, m, ks, ks ++ [name], rfl, rfl, r2, rv, fun W' md r' => k W' ((Grow.s (g1.trans g2)).trans md) r'⟩
theorem rd_Marks_made_smaller (c : MarksC K CM) (h : sp_Marks_made_smaller K CM vs H Q E) : t_Marks_made_smaller K CM E { nx := fun _ H' => Q .non H', rt := Q } (start n_Marks_made_smaller vs) H := by
  obtain ⟨CL, W, y, names, n, ks, u, o, rfl, rfl, r, ru, h⟩ := h
  rcases h with ⟨m, rfl, h1, h2, k⟩ | ⟨bad, k⟩
  rotate_left
  · exact s_needBad (ev_var (i := 1) rfl ru) (em_num c (ev_rvar (i := 0) rfl) r.pur) bad k
  obtain rfl : u = V.int m := ru
  refine q_drop (ε := pur) (ev_needMany (ev_var rfl (x := (m : Int)) rfl) (em_num c (ev_rvar (i := 0) rfl) r.pur) (by omega) (by omega)) trivial fun _ W1 g1' _ => ?_
  have g1 := g1'.pure
  obtain ⟨dy, l, w, hh, hl, rw'⟩ := (r.gr g1).ex
  refine q_fld (K := K) (y := (m : Int)) c.i.cl c.n2 rfl (r.gr g1).b hh mf_len (ev_var (i := 1) rfl rfl) fun v3 W3 m3 o3 b3 hh3 r3 => ?_
  rw [show v3 = _ from r3, mf_putN] at hh3
  have r3' : MarkAt K CL CM W3 y names m ks := ⟨b3, dy, l, w, hh3, hl.on o3, rep_on o3 rw'⟩
  refine s_fldP (P := fun v W => rep K W.B v (Tup.mk (ks.take m))) c.i.cl c.n3 rfl b3 hh3 mf_len ((ev_slT (em_kept c (ev_rvar (i := 0) rfl) r3'.pur) eo_none (eo_some (ev_var (K := K) (i := 1) rfl rfl))).is (by rw [show cutL (Tup.mk ks).items none (some (m : Int)) = ks.take m from cut_toN])).p fun v4 W4 W5 g4 r4 m5 o5 b4 h4 b5 hh5 => ?_
  exact k W5 (((Grow.s g1).trans m3).trans ((Grow.s g4).trans m5)) (MarkAt.putK (ks := ks) m5 b5 hh5 (((hl.on o3).g g4).on o5) (rep_on o5 r4))
theorem ev_isMark {W : Wd} {σ : SS} {te : TE} {y : Addr} {names : List Str} {m : Nat} {ks : List Str} (c : MarksC K CM) (hd : EvR pur K te σ W (Raw.mk (.ref y))) (r : MarkAt K CL CM W y names m ks) : EvR pur K (tCB (rIsi K) (tCons te (tCons (tC (.ref CM)) tNil))) σ W true := fun W1 g1 Q k => hd W1 g1 _ fun v W2 g2 e => by
  obtain ⟨dy, l, w, h, _⟩ := (r.gr (g1.trans g2).pure).ex
  rw [show v = V.ref y from e]
  show rIsi K [.ref y, .ref CM] W2.H Q
  exact rc_isi_own c.i h (k _ W2 g2 rfl)
theorem isi_no {W : Wd} {σ : SS} {te : TE} {v : V} (h : EvR pur K te σ W (Raw.mk v)) (n : NoMk K CM v W) : EvR pur K (tCB (rIsi K) (tCons te (tCons (tC (.ref CM)) tNil))) σ W false := fun W1 g1 Q k => h W1 g1 _ fun u W2 g2 e => by
  obtain ⟨t, h1, h2⟩ := n
  rw [show u = v from e]
  exact ⟨v, .ref CM, t, .ref CM, false, rfl, .own CM, h1 W2 (g1.trans g2).pure, h2, k _ W2 g2 rfl⟩
theorem mcall1E {α : Type} [Py α] {W : Wd} {σ : SS} {te ta : TE} {y : Addr} {names : List Str} {m : Nat} {ks : List Str} {a : α} {f : Str} {sp : Sp} {Q : VK} {E : XK} (hd : EvR pur K te σ W (Raw.mk (.ref y))) (r : MarkAt K CL CM W y names m ks) (hm : ¬ f = "own_letters" ∧ ¬ f = "mark_number" ∧ ¬ f = "marked") (ha : EvR pur K ta σ W a)
    (k : ∀ v W1, Grow W W1 → rep K W1.B v a → MarkAt K CL CM W1 y names m ks → sp [.ref y, v] W1.H Q E) : tMeth CM f sp [] E te (tCons ta tNil) σ W.H Q := hd W (.start trivial) _ fun v W1 g1 e => by
  obtain ⟨dy, l, w, h, _⟩ := (r.gr g1.pure).ex
  rw [show v = V.ref y from e]
  exact ⟨y, dy, _, rfl, h, mf_no hm.1 hm.2.1 hm.2.2, ha W1 g1 _ fun v W2 g2 rv => k v W2 (g1.trans g2).pure rv (r.gr (g1.trans g2).pure)⟩
theorem rd_Marks_pour (cl : LettersC K CL) (c : MarksC K CM) (h : sp_Marks_pour K CL CM vs H Q E) : t_Marks_pour K CL CM E { nx := fun _ H' => Q .non H', rt := Q } (start n_Marks_pour vs) H := by
  rcases h with ⟨W, y, z, names, m, kk, ks, ls, rfl, rfl, r, rz, m1, k1, hk, hl', m8, k8, k⟩ | ⟨W, y, u, names, m, ks, rfl, rfl, r, hn, k⟩
  rotate_left
  · rcases hn with hn | ⟨z, n2, n, ls, rfl, rz, ne⟩
    · exact q_when (ε := pur) (b := true) ((et_or (a := true) (b := false) ((et_not (et_B (isi_no (CM := CM) (ev_rvar (i := 1) rfl) hn))).is rfl) fun z => by cases z).is rfl) trivial (fun _ W1 g1 => k W1 g1.pure) (fun z => by cases z)
    · exact q_when (ε := pur) (b := true) ((et_or (a := false) ((et_not (et_B (ev_isMark (K := K) c (ev_rvar (i := 1) rfl) rz))).is rfl) fun _ => et_test (ev_letNe (ep_mlet c (ev_rvar (i := 0) rfl) r.pur) (em_meth (R := LetAt K CL n2) (ev_rvar (i := 1) rfl) rz.pur (by decide +kernel) fun W1 r1 Q k => ⟨CL, W1, z, n2, n, ls, rfl, rfl, r1, fun v W' g h => k v W' g h⟩))).is (by simp [ne])) trivial (fun _ W1 g1 => k W1 g1.pure) (fun z => by cases z)
  refine q_when (ε := pur) (b := false) ((et_or (a := false) ((et_not (et_B (ev_isMark (K := K) c (ev_rvar (i := 1) rfl) rz))).is rfl) fun _ => et_test (ev_letNe (ep_mlet c (ev_rvar (i := 0) rfl) r.pur) (em_meth (R := LetAt K CL names) (ev_rvar (i := 1) rfl) rz.pur (by decide +kernel) fun W1 r1 Q k => ⟨CL, W1, z, names, kk, ls, rfl, rfl, r1, fun v W' g h => k v W' g h⟩))).is (by simp)) trivial (fun z => by cases z) fun _ W1 g1' => ?_
  have g1 := g1'.pure
  refine mcall1E (K := K) (CL := CL) (E := E) (a := ((min m kk : Nat) : Int)) (ev_rvar (i := 0) rfl) (r.gr g1) (by decide +kernel) ((ev_cb2 (em_num c (ev_rvar (i := 0) rfl) (r.gr g1).pur) (em_meth (R := fun v W => rep K W.B v (kk : Int)) (ev_rvar (i := 1) rfl) (rz.gr g1).pur (by decide +kernel) fun W1 r1 Q k => ⟨CL, W1, z, names, kk, ls, rfl, rfl, r1, fun W' g => k _ W' g rfl⟩).toR rc_min2).is (by split <;> omega)) fun v W2 g2 rv r2 => ?_
  refine ⟨CL, W2, y, names, m, ks, v, .int (min m kk : Nat), rfl, rfl, r2, rv, .inl ⟨min m kk, rfl, by omega, by omega, fun W3 md r3 => ?_⟩⟩
  have rz2 := (rz.gr g1).gr g2
  have rz3 : ∃ kk' : Nat, MarkAt K CL CM W3 z names kk' ls := by
    by_cases e : z = y
    · subst e
      obtain ⟨dy, l, w, hh, hl, rw1⟩ := r2.ex
      obtain ⟨dy', l', w', hh', hl2, rw2⟩ := rz2.ex
      rw [hh] at hh'
      injection hh' with hh'
      injection hh' with _ _ hh'
      rw [mf_eq, mf_eq] at hh'
      simp only [List.cons.injEq, Prod.mk.injEq, true_and, and_true] at hh'
      obtain ⟨_, e2, e3⟩ := hh'
      have e2 : (m : Int) = (kk : Int) := by injection e2
      subst e3
      have e4 : ks = ls := by
        obtain ⟨a, us, f1, f2, f3⟩ := rw1
        obtain ⟨a', us', f1', f2', f3'⟩ := rw2
        rw [f1] at f1'
        cases f1'
        rw [f2] at f2'
        cases f2'
        have h1 := reps_str f3
        have h2 := reps_str f3'
        rw [h1] at h2
        exact (List.map_inj_right (fun a b h => by injection h)).mp h2
      subst e4
      have : min m kk = m := by omega
      rw [List.take_of_length_le (by omega)] at r3
      exact ⟨_, r3⟩
    · exact ⟨kk, rz2.g md (by simpa using e)⟩
  obtain ⟨kk', rz3⟩ := rz3
  refine mcall1 (K := K) (CL := CL) (W := W3) (σ := [some (.ref y), some (.ref z)]) (a := Tup.mk (ks.take (min m kk) ++ ls)) (ev_rvar (i := 0) rfl) r3 (by decide +kernel) (ev_op (em_kept c (ev_rvar (i := 0) rfl) r3.pur) (em_meth (R := fun v W => rep K W.B v (Tup.mk ls)) (ev_rvar (i := 1) rfl) rz3.pur (by decide +kernel) fun W1 r1 Q k => ⟨CL, W1, z, names, kk', ls, rfl, rfl, r1, fun v W' g h => k v W' g h⟩).toR (ro_catT (by show (ks.take (min m kk)).length + ls.length ≤ 100000; rw [List.length_take]; omega))) fun v W4 g4 rv r4 => ⟨W4, y, v, names, min m kk, _, _, rfl, rfl, r4, rv, fun W' md' r' => k W' (((Grow.s (g1.trans g2)).trans md).trans ((Grow.s g4).trans md')) r'⟩
theorem em_manyN {W : Wd} {σ : SS} {te : TE} {ε : Ef} {y : Addr} {names : List Str} {m : Nat} {ks : List Str} (hd : EvR ε K te σ W (Raw.mk (.ref y))) (r : MStay ε K CL CM W y names m ks) : EvR ε K (tMeth CM "many" (sp_Marks_many K CM) [] E0 te tNil) σ W (m : Int) :=
  (em_meth (R := fun v W => rep K W.B v (m : Int)) hd r (by decide +kernel) fun W1 r1 Q k => ⟨CL, W1, y, names, m, ks, rfl, rfl, r1, fun W' g => k _ W' g rfl⟩).toR
theorem em_keptN {W : Wd} {σ : SS} {te : TE} {ε : Ef} {y : Addr} {names : List Str} {m : Nat} {ks : List Str} (hd : EvR ε K te σ W (Raw.mk (.ref y))) (r : MStay ε K CL CM W y names m ks) : EvR ε K (tMeth CM "kept" (sp_Marks_kept K CM) [] E0 te tNil) σ W (Tup.mk ks) :=
  (em_meth (R := fun v W => rep K W.B v (Tup.mk ks)) hd r (by decide +kernel) fun W1 r1 Q k => ⟨CL, W1, y, names, m, ks, rfl, rfl, r1, fun v W' g h => k v W' g h⟩).toR
theorem em_fullN {W : Wd} {σ : SS} {te : TE} {ε : Ef} {y : Addr} {names : List Str} {m : Nat} {ks : List Str} (hd : EvR ε K te σ W (Raw.mk (.ref y))) (r : MStay ε K CL CM W y names m ks) : EvR ε K (tMeth CM "full" (sp_Marks_full K CM) [] E0 te tNil) σ W (decide ((ks.length : Int) = (m : Int))) :=
  (em_meth (R := fun v W => rep K W.B v (decide ((ks.length : Int) = (m : Int)))) hd r (by decide +kernel) fun W1 r1 Q k => ⟨CL, W1, y, names, m, ks, rfl, rfl, r1, fun W' g => k _ W' g rfl⟩).toR
theorem ep_mletN {W : Wd} {σ : SS} {te : TE} {ε : Ef} {y : Addr} {names : List Str} {m : Nat} {ks : List Str} (hd : EvR ε K te σ W (Raw.mk (.ref y))) (r : MStay ε K CL CM W y names m ks) : EvP ε (tMeth CM "letters" (sp_Marks_letters K CM) [] E0 te tNil) σ W (LetAt K CL names) :=
  em_meth (R := LetAt K CL names) hd r (by decide +kernel) fun W1 r1 Q k => ⟨CL, W1, y, names, m, ks, rfl, rfl, r1, fun v W' g h => k v W' g h⟩
theorem rd_Marks_full (c : MarksC K CM) (h : sp_Marks_full K CM vs H Q E) : t_Marks_full K CM { nx := fun _ H' => Q .non H', rt := Q } (start n_Marks_full vs) H := by
  obtain ⟨CL, W, y, names, m, ks, rfl, rfl, r, k⟩ := h
  refine s_ret (ε := pur) (K := K) (ev_op (ev_cb1 (em_kept c (ev_rvar (i := 0) rfl) r.pur) rc_lenT) (em_num c (ev_rvar (i := 0) rfl) r.pur) ro_eqI) trivial fun v W' g rv => ?_
  rw [show v = _ from rv]
  exact k W' g.pure
theorem q_asgW {i : Nat} {te : TE} {tz : TS} {D : Ends} {σ : SS} {H : Hp} (h : te σ H fun v H1 => tz D (σ.set i (some v)) H1) : tSeq (tAsg te (gName i)) tz D σ H := h
theorem rd_Marks_twin (cl : LettersC K CL) (c : MarksC K CM) (h : sp_Marks_twin K CL CM vs H Q E) : t_Marks_twin K CL CM { nx := fun _ H' => Q .non H', rt := Q } (start n_Marks_twin vs) H := by
  obtain ⟨W, y, names, m, ks, rfl, rfl, r, h1, h8, k⟩ := h
  refine q_asgW ?_
  unfold tMake
  refine ep_mlet c (ev_rvar (i := 0) rfl) r.pur W (.start trivial) _ fun v1 W1 g1 hl1 => ?_
  refine em_num c (ev_rvar (i := 0) rfl) (r.gr g1.pure).pur W1 (.start trivial) _ fun v2 W2 g2 e2 z dz hz hdz ne => ?_
  rw [show v2 = _ from e2]
  have r2 := (r.gr g1.pure).gr g2.pure
  let Wa := W2.put dz (.own z) (W2.free hdz)
  have ga : Grow W2 Wa := W2.grow_put hdz
  have hz' : Wa.H z = none := (upd_ne ne.symm).trans hz
  let Wb := Wa.put z (.ins CM dz []) (Wa.free hz')
  have gb : Grow Wa Wb := Wa.grow_put hz'
  have gab := ga.trans gb
  refine ⟨Wb, z, dz, v1, .int m, names, .int m, rfl, rfl, Wa.free hz', upd_same, (hl1.g g2.pure).g gab, rfl, .inl ⟨m, rfl, h1, h8, fun W3 m3 r3 => ⟨rfl, ?_⟩⟩⟩
  have M : Md [z] W2 W3 := (Grow.s gab).trans m3
  have G3 : Grow W2 W3 := Md.fresh (.refl [] W2) M hz
  have r3' := r2.gr G3
  obtain ⟨dx, l, w, hh, hl, rw'⟩ := r3.ex
  show tSeq _ _ _ [some (.ref y), some (.ref z)] W3.H
  refine q_fldP (P := fun v W => rep K W.B v (Tup.mk ks)) c.i.cl c.n3 rfl r3.b hh mf_len (em_kept c (ev_rvar (i := 0) rfl) r3'.pur).p fun v4 W4 W5 g4 r4 m5 o5 b4 h4 b5 hh5 => ?_
  have r5 : MarkAt K CL CM W5 z names m ks := MarkAt.putK (ks := []) m5 b5 hh5 ((hl.g g4).on o5) (rep_on o5 r4)
  have G5 : Grow W2 W5 := Md.fresh (G3.trans g4) m5 hz
  exact ⟨_, rfl, k z W5 ((g1.pure.trans g2.pure).trans G5) r5 (was_none (g1.pure.trans g2.pure) hz)⟩
theorem rd_Marks___eq__ (cl : LettersC K CL) (c : MarksC K CM) (h : sp_Marks___eq__ K CL CM vs H Q E) : t_Marks___eq__ K CL CM { nx := fun _ H' => Q .non H', rt := Q } (start n_Marks___eq__ vs) H := by
  obtain ⟨W, y, names, m, ks, u, rfl, rfl, r, h⟩ := h
  rcases h with ⟨z, n2, n, ls, rfl, rz, k⟩ | ⟨hn, k⟩
  rotate_left
  · exact q_when (ε := pur) (b := true) ((et_or (a := true) (b := false) ((et_not (et_B (isi_no (CM := CM) (ev_rvar (i := 1) rfl) hn))).is rfl) fun z => by cases z).is rfl) trivial (fun _ W1 g1 => k W1 g1.pure) (fun z => by cases z)
  refine q_when (ε := pur) (b := !decide (names = n2)) ((et_or (a := false) (b := !decide (names = n2)) ((et_not (et_B (ev_isMark (K := K) c (ev_rvar (i := 1) rfl) rz))).is rfl) fun _ => et_test (ev_letNe (ep_mlet c (ev_rvar (i := 0) rfl) r.pur) (ep_mletN (CL := CL) (ev_rvar (i := 1) rfl) rz.pur))).is (by simp)) trivial (fun hb W1 g1 => ?_) (fun hb W1 g1 => ?_)
  · have e : decide (names = n2) = false := by simpa using hb
    rw [e, Bool.false_and] at k
    exact k W1 g1.pure
  · have e : decide (names = n2) = true := by simpa using hb
    rw [e, Bool.true_and] at k
    refine s_ret (ε := pur) (K := K) (ev_op (ev_pair (em_manyN (CL := CL) (ev_rvar (i := 0) rfl) (r.gr g1.pure).pur) (em_keptN (CL := CL) (ev_rvar (i := 0) rfl) (r.gr g1.pure).pur)) (ev_pair (em_manyN (CL := CL) (ev_rvar (i := 1) rfl) (rz.gr g1.pure).pur) (em_keptN (CL := CL) (ev_rvar (i := 1) rfl) (rz.gr g1.pure).pur)) (ro_eqT (by decide))) trivial fun v W' g rv => ?_
    rw [show v = _ from rv]
    exact k W' (g1.pure.trans g.pure)
end
end B
set_option maxHeartbeats 8000000
/-! k13: plain pairs, turns -/
namespace B
open PySem L2
open PySem.W (Tup T3 T4 Datum DatumOrd)
open Evl (Ex)
/-- a plain pair: how many, all that were met -/
structure PLn where
  w : Int
  S : List Str
instance : Py PLn := ⟨fun K H v x => ∃ a t, v = .ref a ∧ H a = some (.lst [.int x.w, t]) ∧ rep K H t (Tup.mk x.S), fun e ⟨a, t, h1, h2, h3⟩ => ⟨a, t, h1, (by
  rcases e a _ h2 with h | ⟨⟨k, z⟩, _⟩
  · exact h
  · cases z), Py.mono e h3⟩⟩
section
variable {K : Fg} {ε : Ef} {W : Wd} {σ : SS} {te ta tb tc : TE} {x : PLn}
theorem ro_plW : RO K (rIxL K) x (0 : Int) x.w := ro_val fun v u W1 ⟨a, t, e, h, r⟩ ru Q k => ⟨a, _, 0, _, e, ru, SqL.of (W1.sub.el h), rfl, k _ rfl⟩
theorem ro_plS : RO K (rIxL K) x (1 : Int) (Tup.mk x.S) := ro_val fun v u W1 ⟨a, t, e, h, r⟩ ru Q k => ⟨a, _, 1, _, e, ru, SqL.of (W1.sub.el h), rfl, k _ r⟩
theorem ev_pl {w : Int} {S : List Str} (ha : EvR ε K ta σ W w) (hb : EvR ε K tb σ W (Tup.mk S)) : EvR ε K (tLst (tCons ta (tCons tb tNil))) σ W (PLn.mk w S) := fun W1 g1 Q k => ha W1 g1 _ fun v W2 g2 rv => hb W2 (g1.trans g2) _ fun u W3 g3 ru => ⟨Evl.sz_of (by show 2 ≤ 100000; decide), fun p hp => by
  rw [show v = V.int w from rv]
  exact k _ (W3.add p (.lst [.int w, u])) ((g2.trans g3).and (W3.grow_add hp)) ⟨p, u, rfl, upd_same, Py.mono (exExt (W3.grow_add hp).b) ru⟩⟩
theorem ep_dp3 {α β γ : Type} [DecidableEq α] [Datum α] [Py α] [PyD α] [DecidableEq β] [Datum β] [Py β] [PyD β] [DecidableEq γ] [Datum γ] [Py γ] [PyD γ] {x : α} {y : β} {z : γ} (ha : EvR ε K ta σ W x) (hb : EvR ε K tb σ W y) (hc : EvR ε K tc σ W z) :
    EvP ε (tLst (tCons ta (tCons tb (tCons tc tNil)))) σ W (fun v W' => Dp K W'.H v (.list [Datum.toD x, Datum.toD y, Datum.toD z])) := fun W1 g1 Q k => ha W1 g1 _ fun v W2 g2 rv => hb W2 (g1.trans g2) _ fun u W3 g3 ru => hc W3 ((g1.trans g2).trans g3) _ fun w W4 g4 rw' => ⟨Evl.sz_of (by show 3 ≤ 100000; decide), fun p hp => by
  have g5 : Grow W4 (W4.add p (.lst [v, u, w])) := W4.grow_add hp
  exact k _ (W4.add p (.lst [v, u, w])) (((g2.trans g3).trans g4).and g5) (Dp.lst (SqL.of upd_same) (.cons (PyD.dp (rep_h (rep_g g5 (rep_s g4 (rep_s g3 rv))))) (.cons (PyD.dp (rep_h (rep_g g5 (rep_s g4 ru)))) (.cons (PyD.dp (rep_h (rep_g g5 rw'))) .nil))))⟩
end
theorem show_bl {b : Bool} : ShowOk 1921 (.bool b) := by
  cases b
  · exact ⟨by decide +kernel, by decide +kernel, by decide +kernel⟩
  · exact ⟨by decide +kernel, by decide +kernel, by decide +kernel⟩
theorem show_tup {b : Nat} {ds : List PyData} (h : ∀ d ∈ ds, ShowOk b d) : ShowOk (ds.length * b + 2 * ds.length + 3) (.tuple ds) := by
  obtain ⟨h1, h2, h3, h4⟩ := show_all ds h
  refine ⟨by simp only [PyData.showable]; exact h1, by simp only [PyData.hasDict]; exact h2, ?_⟩
  simp only [PyData.shown]
  have := tupleText_len_le (PyData.shownAll ds)
  omega
def sp__law_least (K : Fg) : Sp := fun vs H Q _ => ∃ (W : Wd) (v u : V) (names S : List Str) (m : Nat), W.H = H ∧ vs = [v, u, .int m] ∧ rep K W.B v names ∧ names.length ≤ 12 ∧ rep K W.B u (Tup.mk S) ∧ ∀ w W', Grow W W' → rep K W'.B w (Tup.mk (kp names m fun x => decide (x ∈ S))) → Q w W'.H
theorem len__law_least {K : Fg} {vs : List V} {H : Hp} {Q : VK} {E : XK} (h : sp__law_least K vs H Q E) : vs.length = ["_law_alphabet_here", "_law_met", "_law_wide"].length := by
  obtain ⟨W, v, u, names, S, m, _, rfl, _⟩ := h
  rfl
/-- _law_least: the slots 0 _law_alphabet_here, 1 _law_met, 2 _law_wide, 3 _law_name -/
abbrev n__law_least : List Str := ["_law_alphabet_here", "_law_met", "_law_wide", "_law_name"]
def t__law_least (K : Fg) : TS := (tRet (tCB (rTupleO K) (tCons (tSl (rSlL K) (tLc (iList K (tVar 0)) (gName 3) (tTest (tOp (rInTT K false) (tVar 3) (tVar 1))) (tVar 3) [3]) tNoPart (tPart (tVar 2))) tNil)))
def sp__law_stands (K : Fg) (CL CM : Addr) : Sp := fun vs H Q _ => ∃ (W : Wd) (y : Addr) (va vp : V) (names S : List Str) (m : Nat), W.H = H ∧ vs = [.ref y, va, vp] ∧ MarkAt K CL CM W y names m (kp names m fun x => decide (x ∈ S)) ∧ m ≤ 8 ∧ rep K W.B va names ∧ rep K W.B vp (PLn.mk m S) ∧ ∀ W', Grow W W' → Q (.bl true) W'.H
theorem len__law_stands {K : Fg} {CL CM : Addr} {vs : List V} {H : Hp} {Q : VK} {E : XK} (h : sp__law_stands K CL CM vs H Q E) : vs.length = ["_law_mark", "_law_alphabet_here", "_law_plain"].length := by
  obtain ⟨W, y, va, vp, names, S, m, _, rfl, _⟩ := h
  rfl
/-- _law_stands: the slots 0 _law_mark, 1 _law_alphabet_here, 2 _law_plain, 3 _law_due -/
abbrev n__law_stands : List Str := ["_law_mark", "_law_alphabet_here", "_law_plain", "_law_due"]
def t__law_stands (K : Fg) (c_Letters : Addr) (c_Marks : Addr) : TS := (tSeq (tAsg (tCall (sp__law_least K) [] E0 (tCons (tVar 1) (tCons (tOp (rIxL K) (tVar 2) (tC (.int 1))) (tCons (tOp (rIxL K) (tVar 2) (tC (.int 0))) tNil)))) (gName 3))
  (tSeq (tIfS (tTest (tOp rNe (tCB (rRepr K) (tCons (tLst (tCons (tMeth c_Marks "kept" (sp_Marks_kept K c_Marks) [] E0 (tVar 0) tNil) (tCons (tMeth c_Marks "many" (sp_Marks_many K c_Marks) [] E0 (tVar 0) tNil) (tCons (tMeth c_Marks "full" (sp_Marks_full K c_Marks) [] E0 (tVar 0) tNil) tNil)))) tNil)) (tCB (rRepr K) (tCons (tLst (tCons (tVar 3) (tCons (tOp (rIxL K) (tVar 2) (tC (.int 0))) (tCons (tOp rEq (tCB (rLen K) (tCons (tVar 3) tNil)) (tOp (rIxL K) (tVar 2) (tC (.int 0)))) tNil)))) tNil)))) (tRet (tC (.bl false))) tNext)
  (tRet (tOp (rInsEq c_Letters (sp_Letters___eq__ K c_Letters) E0) (tMeth c_Marks "letters" (sp_Marks_letters K c_Marks) [] E0 (tVar 0) tNil) (tMake c_Letters (sp_Letters___init__ K c_Letters) [] E0 (tCons (tVar 1) tNil))))))
/-- marks, and all that they met -/
structure MQ where
  y : Addr
  m : Nat
  ks : List Str
  S : List Str
structure MOk (names : List Str) (q : MQ) : Prop where
  lo : 1 ≤ q.m
  hi : q.m ≤ 8
  k : q.ks = kp names q.m fun x => decide (x ∈ q.S)
  nd : q.S.Nodup
  sub : ∀ s ∈ q.S, s ∈ names
theorem MOk.len {names : List Str} {q : MQ} (h : MOk names q) : q.ks.length ≤ q.m := by rw [h.k]; exact kp_len _ _ _
structure MGrp (K : Fg) (CL CM : Addr) (W : Wd) (names : List Str) (qs : List MQ) : Prop where
  at_ : ∀ q ∈ qs, MarkAt K CL CM W q.y names q.m q.ks
  ok : ∀ q ∈ qs, MOk names q
  nd : (qs.map (·.y)).Nodup
def NoIns (S : List Addr) (W : Wd) : Prop := ∀ a ∈ S, ∀ C dx fs, W.H a ≠ some (.ins C dx fs)
section
variable {K : Fg} {CL CM : Addr} {W W' : Wd} {names : List Str} {qs : List MQ} {S : List Addr}
theorem MarkAt.out {y : Addr} {m : Nat} {ks : List Str} (r : MarkAt K CL CM W y names m ks) (h : NoIns S W) : y ∉ S := fun z => by
  obtain ⟨dy, l, v, e, _⟩ := r.ex
  exact h y z _ _ _ e
theorem st_noins {p c : Addr} (s : St W p c) : NoIns [p, c] W := fun a ha C dx fs e => by
  obtain ⟨x, m, t, cs, h1, h2, _⟩ := s.ex
  simp only [List.mem_cons, List.not_mem_nil, or_false] at ha
  rcases ha with rfl | rfl
  · rw [h1] at e; cases e
  · rw [h2] at e; cases e
theorem tab_noins {P : Addr} {q : Str} (t : TabAt W P q) : NoIns [P] W := fun a ha C dx fs e => by
  obtain ⟨ps, h, _⟩ := t.ex
  rw [List.mem_singleton.mp ha, h] at e
  cases e
theorem lm_noins {α : Type} [Py α] {d : Addr} {xs : List α} (m : LMut K W d xs) : NoIns [d] W := fun a ha C dx fs e => by
  obtain ⟨vs, h, _⟩ := m.ex
  rw [List.mem_singleton.mp ha, h] at e
  cases e
theorem MGrp.g (h : MGrp K CL CM W names qs) (g : Md S W W') (hS : NoIns S W) : MGrp K CL CM W' names qs := ⟨fun q hq => (h.at_ q hq).g g ((h.at_ q hq).out hS), h.ok, h.nd⟩
theorem MGrp.gr (h : MGrp K CL CM W names qs) (g : Grow W W') : MGrp K CL CM W' names qs := h.g g fun a ha => by cases ha
theorem set_same {α β : Type} {f : α → β} : ∀ {xs : List α} {k : Nat} {x y : α}, xs[k]? = some x → f y = f x → (xs.set k y).map f = xs.map f
  | [], k, _, _, h, _ => by cases h
  | a :: xs, 0, x, y, h, e => by
    cases h
    show f y :: xs.map f = f a :: xs.map f
    rw [e]
  | a :: xs, k + 1, x, y, h, e => by
    have h' : xs[k]? = some x := h
    have ih := set_same (f := f) h' e
    show f a :: (xs.set k y).map f = f a :: xs.map f
    rw [ih]
theorem MGrp.set {k : Nat} {q q' : MQ} (h : MGrp K CL CM W names qs) (hk : qs[k]? = some q) (g : Md [q.y] W W') (e : q'.y = q.y) (r : MarkAt K CL CM W' q'.y names q'.m q'.ks) (ok : MOk names q') : MGrp K CL CM W' names (qs.set k q') := by
  have key : ∀ r' ∈ qs.set k q', r' = q' ∨ (r' ∈ qs ∧ r'.y ≠ q.y) := fun r' hr => by
    obtain ⟨j, hj, ej⟩ := List.getElem_of_mem hr
    rw [List.length_set] at hj
    rw [List.getElem_set] at ej
    by_cases z : k = j
    · rw [if_pos z] at ej; exact .inl ej.symm
    · rw [if_neg z] at ej
      subst ej
      refine .inr ⟨List.getElem_mem hj, fun ey => z ?_⟩
      obtain ⟨hk1, hk2⟩ := List.getElem?_eq_some_iff.mp hk
      have hk1' : k < (qs.map (·.y)).length := by rw [List.length_map]; exact hk1
      have hj' : j < (qs.map (·.y)).length := by rw [List.length_map]; exact hj
      refine (List.getElem_inj (h₀ := hk1') (h₁ := hj') h.nd).mp ?_
      rw [List.getElem_map, List.getElem_map, hk2, ey]
  refine ⟨fun r' hr => ?_, fun r' hr => ?_, ?_⟩
  · rcases key r' hr with rfl | ⟨h1, h2⟩
    · exact r
    · exact (h.at_ r' h1).g g (by simpa using h2)
  · rcases key r' hr with rfl | ⟨h1, h2⟩
    · exact ok
    · exact h.ok r' h1
  · rw [set_same (f := fun q : MQ => q.y) hk e]; exact h.nd
end
/-- what the deeds do -/
def MQ.less (q : MQ) (n : Nat) : MQ := ⟨q.y, n, q.ks.take n, q.S⟩
def MQ.more (names : List Str) (q : MQ) (x : Str) : MQ := ⟨q.y, q.m, keepM names q.m (q.ks ++ [x]), q.S ++ (if x ∈ q.S then [] else [x])⟩
def MQ.both (names : List Str) (q r : MQ) : MQ := ⟨q.y, min q.m r.m, keepM names (min q.m r.m) (q.ks.take (min q.m r.m) ++ r.ks), q.S ++ r.S.filter fun x => !decide (x ∈ q.S)⟩
theorem kp_congr {names : List Str} {m : Nat} {p q : Str → Bool} (h : ∀ x, p x = q x) : kp names m p = kp names m q := by rw [show p = q from funext h]
theorem MOk.less {names : List Str} {q : MQ} {n : Nat} (h : MOk names q) (h1 : 1 ≤ n) (hn : n ≤ q.m) : MOk names (q.less n) := ⟨h1, Nat.le_trans hn h.hi, by
  show q.ks.take n = _
  rw [h.k]
  exact kp_take hn _, h.nd, h.sub⟩
theorem MOk.more {names : List Str} {q : MQ} {x : Str} (nd : names.Nodup) (h : MOk names q) (hx : x ∈ names) : MOk names (q.more names x) := by
  refine ⟨h.lo, h.hi, ?_, ?_, ?_⟩
  · show keepM names q.m (q.ks ++ [x]) = _
    rw [h.k, keep_kp nd (Nat.le_refl _)]
    refine kp_congr fun z => ?_
    show (decide (z ∈ q.S) || decide (z ∈ [x])) = decide (z ∈ q.S ++ (if x ∈ q.S then [] else [x]))
    rw [← Bool.decide_or]
    refine decide_eq_decide.mpr ?_
    rw [List.mem_append]
    by_cases c : x ∈ q.S
    · rw [if_pos c, List.mem_singleton]
      exact ⟨fun z => z.elim .inl fun e => .inl (by rw [e]; exact c), fun z => z.elim .inl fun e => by cases e⟩
    · rw [if_neg c]
  · show (q.S ++ (if x ∈ q.S then [] else [x])).Nodup
    by_cases c : x ∈ q.S
    · rw [if_pos c, List.append_nil]; exact h.nd
    · rw [if_neg c, List.nodup_append]
      exact ⟨h.nd, by simp, fun a ha b hb e => c (by rw [← List.mem_singleton.mp hb, ← e]; exact ha)⟩
  · intro s hs
    rcases List.mem_append.mp hs with hs | hs
    · exact h.sub s hs
    · by_cases c : x ∈ q.S
      · rw [if_pos c] at hs; cases hs
      · rw [if_neg c] at hs; rw [List.mem_singleton.mp hs]; exact hx
theorem MOk.both {names : List Str} {q r : MQ} (nd : names.Nodup) (h : MOk names q) (h' : MOk names r) : MOk names (q.both names r) := by
  have l1 := h.lo
  have l2 := h'.lo
  have l3 := h.hi
  refine ⟨by show 1 ≤ min q.m r.m; omega, by show min q.m r.m ≤ 8; omega, ?_, ?_, ?_⟩
  · show keepM names (min q.m r.m) (q.ks.take (min q.m r.m) ++ r.ks) = _
    rw [h.k, h'.k, kp_take (Nat.min_le_left _ _), keep_two nd (Nat.min_le_right _ _)]
    refine kp_congr fun z => ?_
    show (decide (z ∈ q.S) || decide (z ∈ r.S)) = decide (z ∈ q.S ++ r.S.filter fun x => !decide (x ∈ q.S))
    rw [← Bool.decide_or]
    refine decide_eq_decide.mpr ?_
    rw [List.mem_append, List.mem_filter]
    by_cases c : z ∈ q.S
    · simp [c]
    · simp [c]
  · show (q.S ++ r.S.filter fun x => !decide (x ∈ q.S)).Nodup
    rw [List.nodup_append]
    refine ⟨h.nd, h'.nd.filter _, fun a ha b hb e => ?_⟩
    have := (List.mem_filter.mp hb).2
    rw [← e] at this
    simp [ha] at this
  · intro s hs
    rcases List.mem_append.mp hs with hs | hs
    · exact h.sub s hs
    · exact h'.sub s (List.mem_filter.mp hs).1
theorem MOk.sl {names : List Str} {q : MQ} (h : MOk names q) : q.S.length ≤ names.length := nodup_le h.nd h.sub
abbrev rawsM (qs : List MQ) : List Raw := qs.map fun q => Raw.mk (.ref q.y)
abbrev plnsM (qs : List MQ) : List PLn := qs.map fun q => PLn.mk q.m q.S
def sp__law_turn (K : Fg) (CL CM : Addr) : Sp := fun vs H Q _ => ∃ (W : Wd) (p c tp : Addr) (vm va : V) (names : List Str) (qs : List MQ), W.H = H ∧ vs = [.ref p, vm, .ref tp, va] ∧ St W p c ∧ rep K W.B vm (rawsM qs) ∧ LMut K W tp (plnsM qs) ∧ rep K W.B va names ∧ Alpha names ∧ MGrp K CL CM W names qs ∧ tp ≠ p ∧ tp ≠ c ∧ 1 ≤ qs.length ∧ qs.length ≤ 3 ∧
  ∀ W' qs', Md (p :: c :: tp :: qs.map (·.y)) W W' → St W' p c → LMut K W' tp (plnsM qs') → MGrp K CL CM W' names qs' → qs'.map (·.y) = qs.map (·.y) → Q .non W'.H
theorem len__law_turn {K : Fg} {CL CM : Addr} {vs : List V} {H : Hp} {Q : VK} {E : XK} (h : sp__law_turn K CL CM vs H Q E) : vs.length = ["_law_state", "_law_marks_of", "_law_plains", "_law_alphabet_here"].length := by
  obtain ⟨W, p, c, tp, vm, va, names, qs, _, rfl, _⟩ := h
  rfl
/-- _law_turn: the slots 0 _law_state, 1 _law_marks_of, 2 _law_plains, 3 _law_alphabet_here, 4 _law_at, 5 _law_to, 6 _law_way, 7 _law_plain, 8 _law_wide, 9 _law_more, 10 _law_name -/
abbrev n__law_turn : List Str := ["_law_state", "_law_marks_of", "_law_plains", "_law_alphabet_here", "_law_at", "_law_to", "_law_way", "_law_plain", "_law_wide", "_law_more", "_law_name"]
def t__law_turn (K : Fg) (c_Letters : Addr) (c_Marks : Addr) : TS := (tSeq (tPar3 4 5 6 (tCons (tCall (sp__law_draw K) [] E0 (tCons (tVar 0) (tCons (tCB (rLen K) (tCons (tVar 2) tNil)) tNil))) (tCons (tCall (sp__law_draw K) [] E0 (tCons (tVar 0) (tCons (tCB (rLen K) (tCons (tVar 2) tNil)) tNil))) (tCons (tCall (sp__law_draw K) [] E0 (tCons (tVar 0) (tCons (tC (.int 7)) tNil))) tNil))))
  (tSeq (tAsg (tOp (rIxL K) (tVar 2) (tVar 4)) (gName 7))
  (tSeq (tIfS (tTest (tOp rEq (tVar 6) (tC (.int 0)))) (tSeq (tAsg (tOp oAdd (tC (.int 1)) (tCall (sp__law_draw K) [] E0 (tCons (tVar 0) (tCons (tOp (rIxL K) (tVar 7) (tC (.int 0))) tNil)))) (gName 8))
  (tSeq (tAsg (tLst (tCons (tVar 8) (tCons (tOp (rIxL K) (tVar 7) (tC (.int 1))) tNil))) (gSub (tVar 2) (tVar 4) rSetL))
  (tRet (tMeth c_Marks "made_smaller" (sp_Marks_made_smaller K c_Marks) [] E0 (tOp (rIxL K) (tVar 1) (tVar 4)) (tCons (tVar 8) tNil))))) tNext)
  (tSeq (tIfS (tAnd (tTest (tOp rEq (tVar 6) (tC (.int 1)))) (tTest (tOp oLt (tOp (rIxL K) (tVar 0) (tC (.int 3))) (tC (.int 20))))) (tSeq (tAsg (tOp oAdd (tOp (rIxL K) (tVar 0) (tC (.int 3))) (tC (.int 1))) (gSub (tVar 0) (tC (.int 3)) rSetL))
  (tSeq (tPar 8 9 (tCons (tCB rMin2 (tCons (tOp (rIxL K) (tVar 7) (tC (.int 0))) (tCons (tOp (rIxL K) (tOp (rIxL K) (tVar 2) (tVar 5)) (tC (.int 0))) tNil))) (tCons (tLc (iTup K (tOp (rIxL K) (tOp (rIxL K) (tVar 2) (tVar 5)) (tC (.int 1)))) (gName 10) (tTest (tOp (rInTT K true) (tVar 10) (tOp (rIxL K) (tVar 7) (tC (.int 1))))) (tVar 10) [10]) tNil)))
  (tSeq (tAsg (tLst (tCons (tVar 8) (tCons (tOp (rCatA K) (tOp (rIxL K) (tVar 7) (tC (.int 1))) (tCB (rTupleO K) (tCons (tVar 9) tNil))) tNil))) (gSub (tVar 2) (tVar 4) rSetL))
  (tRet (tMeth c_Marks "pour" (sp_Marks_pour K c_Letters c_Marks) [] E0 (tOp (rIxL K) (tVar 1) (tVar 4)) (tCons (tOp (rIxL K) (tVar 1) (tVar 5)) tNil)))))) tNext)
  (tSeq (tAsg (tOp (rIxL K) (tVar 3) (tCall (sp__law_draw K) [] E0 (tCons (tVar 0) (tCons (tCB (rLen K) (tCons (tVar 3) tNil)) tNil)))) (gName 10))
  (tSeq (tAsg (tLst (tCons (tOp (rIxL K) (tVar 7) (tC (.int 0))) (tCons (tOp (rCatA K) (tOp (rIxL K) (tVar 7) (tC (.int 1))) (tOp (rRepT01 K) (tTup (tCons (tVar 10) tNil)) (tCB rInt1 (tCons (tOp (rInTT K true) (tVar 10) (tOp (rIxL K) (tVar 7) (tC (.int 1)))) tNil)))) tNil))) (gSub (tVar 2) (tVar 4) rSetL))
  (tRet (tMeth c_Marks "meet" (sp_Marks_meet K c_Letters c_Marks) [] E0 (tOp (rIxL K) (tVar 1) (tVar 4)) (tCons (tVar 10) tNil)))))))))
/-- Letters.__eq__: the slots 0 self, 1 other -/
abbrev n_Letters___eq__ : List Str := ["self", "other"]
def t_Letters___eq__ (K : Fg) (c_Letters : Addr) : TS := (tRet (tAndV (tCB (rIsi K) (tCons (tVar 1) (tCons (tC (.ref c_Letters)) tNil))) (tOp (rEqT K false) (tMeth c_Letters "ranked" (sp_Letters_ranked K c_Letters) [] E0 (tVar 0) tNil) (tMeth c_Letters "ranked" (sp_Letters_ranked K c_Letters) [] E0 (tVar 1) tNil))))
theorem rd_Letters___eq__ {K : Fg} {C : Addr} {vs : List V} {H : Hp} {Q : VK} {E : XK} (c : LettersC K C) (h : sp_Letters___eq__ K C vs H Q E) : t_Letters___eq__ K C { nx := fun _ H' => Q .non H', rt := Q } (start n_Letters___eq__ vs) H := by
  obtain ⟨W, v, u, n1, n2, rfl, rfl, h1, h2, k⟩ := h
  refine s_ret (ε := pur) (K := K) (x := decide (n1 = n2)) ((ev_andV (a := true) (ev_isLet c (ep_var rfl h2 fun W' g => h2.s g)) fun _ => ev_op (ev_ranked (ep_var rfl h1 fun W' g => h1.s g)) (ev_ranked (ep_var rfl h2 fun W' g => h2.s g)) (ro_eqT (by decide))).is rfl) trivial fun z W' g r => ?_
  rw [show z = _ from r]
  exact k W' g.pure
theorem ev_letEqM {K : Fg} {CL : Addr} {W : Wd} {σ : SS} {ta tb : TE} {n1 n2 : List Str} (ha : EvP pur ta σ W (LetAt K CL n1)) (hb : EvP pur tb σ W (LetAt K CL n2)) : EvR pur K (tOp (rInsEq CL (sp_Letters___eq__ K CL) E0) ta tb) σ W (decide (n1 = n2)) := fun W1 g1 Q k => ha W1 g1 _ fun v W2 g2 h1 => hb W2 (g1.trans g2) _ fun u W3 g3 h2 => by
  have h1 := h1.s g3
  obtain ⟨l, dl, r, e, z1, z2, z3⟩ := id h1
  obtain ⟨l', dl', r', e', z1', z2', z3'⟩ := id h2
  exact ⟨l, l', dl, dl', _, _, e, e', W3.sub.ins z1, W3.sub.ins z1', W3, v, u, n1, n2, rfl, rfl, h1, h2, fun W4 g4 => k _ W4 ((g2.trans g3).and g4) rfl⟩
theorem retHM {te : TE} {D : Ends} {σ : SS} {H : Hp} (h : te σ H D.rt) : tRet te D σ H := h
theorem q_asgGM {te : TE} {g : TG} {tz : TS} {D : Ends} {σ : SS} {H : Hp} (h : te σ H fun v H1 => g v σ H1 fun σ' H' => tz D σ' H') : tSeq (tAsg te g) tz D σ H := h
section
variable {K : Fg} {vs : List V} {H : Hp} {Q : VK} {E : XK} {CL CM : Addr}
theorem rd__law_least (h : sp__law_least K vs H Q E) : t__law_least K { nx := fun _ H' => Q .non H', rt := Q } (start n__law_least vs) H := by
  obtain ⟨W, v, u, names, S, m, rfl, rfl, rv, nl, ru, k⟩ := h
  have eI : ∀ {i : Int} {W : Wd}, rep K W.B (V.int i) i := rfl
  refine s_ret (ε := pur) (K := K) (x := Tup.mk (kp names m fun x => decide (x ∈ S))) ((ev_cb1 (ev_slL (ev_lcNt (α := Str) (p := fun k => decide (k ∈ S)) (f := fun k => k) (ei_list (ev_var (i := 0) rfl rv)).i
      (fun z w W' hz g rz => et_test (ev_op (ev_var (i := 3) rfl rz) (ev_var (i := 1) rfl (rep_s g ru)) (ro_inT (by decide)))) (fun z w W' hz hp g rz => ev_var (i := 3) rfl rz) (by omega)) eo_none (eo_some (ev_var (i := 2) rfl eI))) rc_tupL).is (by rw [List.map_id', cut_toN]; rfl)) trivial fun w W' g rw => k w W' g.pure rw
theorem rd__law_stands (cl : LettersC K CL) (c : MarksC K CM) (h : sp__law_stands K CL CM vs H Q E) : t__law_stands K CL CM { nx := fun _ H' => Q .non H', rt := Q } (start n__law_stands vs) H := by
  obtain ⟨W, y, va, vp, names, S, m, rfl, rfl, r, m8, ra, rp, k⟩ := h
  have al := r.al
  let ks := kp names m fun x => decide (x ∈ S)
  show tSeq _ _ _ [some (.ref y), some va, some vp, none] W.H
  refine q_asg (ε := pur) (K := K) (x := Tup.mk ks) (fun W1 g1 Q k => ⟨_, rfl, (ev_op (K := K) (ev_var (i := 2) rfl (rep_s g1 rp)) ev_int ro_plS) W1 (.start trivial) _ fun u W2 g2 ru => (ev_op (K := K) (ev_var (i := 2) rfl (rep_s g2 (rep_s g1 rp))) ev_int ro_plW) W2 (.start trivial) _ fun w W3 g3 rw' => ⟨W3, va, u, names, S, m, rfl, by rw [show w = V.int m from rw']; rfl, rep_s g3 (rep_s g2 (rep_s g1 ra)), al.hi, rep_s g3 ru, fun z W4 g4 rz => k z W4 ((g2.trans g3).and g4) rz⟩⟩) trivial fun v3 W1 g1 r3 => ?_
  have r1 := r.gr g1.pure
  have rp1 := rep_s g1 rp
  have ra1 := rep_s g1 ra
  have kl : ks.length ≤ 8 := Nat.le_trans (kp_len _ _ _) m8
  let ds : List PyData := [Datum.toD (Tup.mk ks), Datum.toD (m : Int), Datum.toD (decide ((ks.length : Int) = (m : Int)))]
  have shw : ∀ d ∈ ds, ShowOk 15500 d := fun d hd => by
    simp only [ds, List.mem_cons, List.not_mem_nil, or_false] at hd
    rcases hd with rfl | rfl | rfl
    · have h1 : ∀ d ∈ ks.map PyData.str, ShowOk 1921 d := fun d hd => by
        obtain ⟨s, hs, rfl⟩ := List.mem_map.mp hd
        exact show_word (al.ok s (kp_mem hs))
      have := show_tup h1
      rw [List.length_map] at this
      exact this.up (by omega)
    · exact (show_int (show ((m : Int)).natAbs.log2 < 1920 from Nat.lt_of_lt_of_le (PySem.Flt.log2_lt_of (k := 4) (by decide) (by omega)) (by decide))).up (by decide)
    · exact (show_bl).up (by decide)
  have dep : PyData.depthAll ds ≤ 40 := by
    have h1 : ∀ xs : List Str, PyData.depthAll (xs.map PyData.str) = 0 := fun xs => by
      induction xs with
      | nil => simp [PyData.depthAll]
      | cons a l ih => simp [PyData.depthAll, PyData.depth, ih]
    have h2 := h1 ks
    show PyData.depthAll [PyData.tuple (ks.map PyData.str), .int m, .bool _] ≤ 40
    simp [PyData.depthAll, PyData.depth, h2]
  refine q_when (ε := pur) (b := false) ((et_test (ev_op (K := K) (ev_reprP (b := 15500) (ep_dp3 (em_keptN (CL := CL) (ev_rvar (i := 0) rfl) r1.pur) (em_manyN (CL := CL) (ev_rvar (i := 0) rfl) r1.pur) (em_fullN (CL := CL) (ev_rvar (i := 0) rfl) r1.pur)) shw dep (by show 3 * 15500 + 2 * 3 + 3 ≤ 100000; decide))
    (ev_reprP (b := 15500) (ep_dp3 (ev_var (i := 3) rfl r3) (ev_op (K := K) (ev_var (i := 2) rfl rp1) ev_int ro_plW) (ev_op (K := K) (ev_cb1 (ev_var (i := 3) rfl r3) rc_lenT) (ev_op (K := K) (ev_var (i := 2) rfl rp1) ev_int ro_plW) ro_eqI)) shw dep (by show 3 * 15500 + 2 * 3 + 3 ≤ 100000; decide)) ro_neS)).is (by rw [decide_eq_true rfl]; rfl)) trivial (fun z => by cases z) fun _ W2 g2 => ?_
  have r2 := r1.gr g2.pure
  refine s_ret (ε := pur) (K := K) (x := true) ((ev_letEqM (ep_mletN (CL := CL) (ev_rvar (i := 0) rfl) r2.pur) (ep_letters (C := CL) (fun _ _ _ _ h => h) (ev_var (i := 1) rfl (rep_s g2 ra1)) al)).is (decide_eq_true rfl)) trivial fun v W' g rv => ?_
  rw [show v = _ from rv]
  exact k W' ((g1.pure.trans g2.pure).trans g.pure)
theorem atR {qs : List MQ} {k : Nat} {q : MQ} (h : qs[k]? = some q) : atI (rawsM qs) (k : Int) = some (Raw.mk (.ref q.y)) := atI_nat (by rw [List.getElem?_map, h]; rfl)
theorem atP {qs : List MQ} {k : Nat} {q : MQ} (h : qs[k]? = some q) : atI (plnsM qs) (k : Int) = some (PLn.mk q.m q.S) := atI_nat (by rw [List.getElem?_map, h]; rfl)
theorem setP {qs : List MQ} {k : Nat} {q : MQ} : (plnsM qs).set k (PLn.mk q.m q.S) = plnsM (qs.set k q) := by
  show (qs.map _).set k _ = (qs.set k q).map _
  rw [List.map_set]
theorem rd__law_turn (cl : LettersC K CL) (cm : MarksC K CM) (h : sp__law_turn K CL CM vs H Q E) : t__law_turn K CL CM { nx := fun _ H' => Q .non H', rt := Q } (start n__law_turn vs) H := by
  obtain ⟨W, p, c, tp, vm, va, names, qs, rfl, rfl, s, rm, mp, ra, al, G, ntp, ntc, l1, l3, k⟩ := h
  have nd := al.nd
  let S0 : Option V → Option V → Option V → Option V → Option V → Option V → Option V → SS := fun v4 v5 v6 v7 v8 v9 v10 => [some (.ref p), some vm, some (.ref tp), some va, v4, v5, v6, v7, v8, v9, v10]
  show tSeq _ _ _ (S0 none none none none none none none) W.H
  have hS : tp ∉ (drw p c).S := by simp [drw, ntp, ntc]
  have len : EvR (drw p c) K (tCB (rLen K) (tCons (tVar 2) tNil)) (S0 none none none none none none none) W (qs.length : Int) := (ev_lenM (i := 2) rfl mp hS).is (by rw [List.length_map])
  refine q_par3 (ε := drw p c) (ev_draw (K := K) (i := 0) rfl len (by omega) (by omega)) (ev_draw (K := K) (i := 0) rfl len (by omega) (by omega)) (ev_draw (K := K) (i := 0) (n := 7) rfl ev_int (by decide) (by decide)) s (fun _ _ _ _ h => h) (fun _ _ _ _ h => h) fun v4 v5 v6 W1 g1 ⟨ai, e4, a0, a1⟩ ⟨ti, e5, t0, t1⟩ ⟨wi, e6, w0, w1⟩ => ?_
  subst e4 e5 e6
  obtain ⟨at', rfl⟩ : ∃ n : Nat, ai = (n : Int) := ⟨ai.toNat, by omega⟩
  obtain ⟨to', rfl⟩ : ∃ n : Nat, ti = (n : Int) := ⟨ti.toNat, by omega⟩
  have ha' : at' < qs.length := by omega
  have ht' : to' < qs.length := by omega
  have hqa : qs[at']? = some qs[at'] := List.getElem?_eq_getElem ha'
  have hqt : qs[to']? = some qs[to'] := List.getElem?_eq_getElem ht'
  generalize qs[at'] = q at hqa
  generalize qs[to'] = r at hqt
  have okq : MOk names q := G.ok q (List.mem_of_getElem? hqa)
  have okr : MOk names r := G.ok r (List.mem_of_getElem? hqt)
  have s1 : St W1 p c := g1.i
  have G1 := G.g g1.md (st_noins s)
  have mp1 := mp.g g1.md hS
  have M1 : Md (p :: c :: tp :: qs.map (·.y)) W W1 := g1.md.mono (by intro x hx; simp only [drw, List.mem_cons, List.not_mem_nil, or_false] at hx; simp only [List.mem_cons]; rcases hx with rfl | rfl; exact .inl rfl; exact .inr (.inl rfl))
  have rm1 := rep_s g1 rm
  have ra1 := rep_s g1 ra
  show tSeq _ _ _ (S0 (some (.int (at' : Nat))) (some (.int (to' : Nat))) (some (.int wi)) none none none none) W1.H
  refine q_asg (ε := pur) (K := K) (x := PLn.mk q.m q.S) (ev_ixM (i := 2) rfl mp1.pur (ev_var (i := 4) (x := (at' : Int)) rfl rfl) (atP hqa)) trivial fun v7 W2 g2 r7 => ?_
  have s2 := s1.g g2.pure
  have G2 := G1.gr g2.pure
  have mp2 := mp1.gr g2.pure
  have rm2 := rep_s g2 rm1
  have ra2 := rep_s g2 ra1
  have M2 := M1.trans (Grow.s g2.pure)
  let S2 : Option V → Option V → Option V → SS := fun v8 v9 v10 => S0 (some (.int (at' : Nat))) (some (.int (to' : Nat))) (some (.int wi)) (some v7) v8 v9 v10
  show tSeq _ _ _ (S2 none none none) W2.H
  have mkq : ∀ {W : Wd} {v8 v9 v10 : Option V}, rep K W.B vm (rawsM qs) → EvR pur K (tOp (rIxL K) (tVar 1) (tVar 4)) (S2 v8 v9 v10) W (Raw.mk (.ref q.y)) := fun rm => ev_op (ev_var (i := 1) rfl rm) (ev_var (i := 4) (x := (at' : Int)) rfl rfl) (ro_ixL (atR hqa))
  have memq : q ∈ qs := List.mem_of_getElem? hqa
  have inS : ∀ {W W' : Wd}, Md [tp] W W' → Md (p :: c :: tp :: qs.map (·.y)) W W' := fun m => m.mono (by intro x hx; rw [List.mem_singleton.mp hx]; simp)
  have inY : ∀ {W W' : Wd}, Md [q.y] W W' → Md (p :: c :: tp :: qs.map (·.y)) W W' := fun m => m.mono (by intro x hx; rw [List.mem_singleton.mp hx]; simp only [List.mem_cons]; exact .inr (.inr (.inr (List.mem_map.mpr ⟨q, memq, rfl⟩))))
  have inD : ∀ {W W' : Wd}, Md (drw p c).S W W' → Md (p :: c :: tp :: qs.map (·.y)) W W' := fun m => m.mono (by intro x hx; simp only [drw, List.mem_cons, List.not_mem_nil, or_false] at hx; simp only [List.mem_cons]; rcases hx with rfl | rfl; exact .inl rfl; exact .inr (.inl rfl))
  have inP : ∀ {W W' : Wd}, Md [p] W W' → Md (p :: c :: tp :: qs.map (·.y)) W W' := fun m => m.mono (by intro x hx; rw [List.mem_singleton.mp hx]; simp)
  -- the end of each deed
  have fin : ∀ (q' : MQ) (W5 W6 : Wd), q'.y = q.y → MOk names q' → Md (p :: c :: tp :: qs.map (·.y)) W W5 → St W5 p c → MGrp K CL CM W5 names qs → LMut K W5 tp (plnsM (qs.set at' q')) → Md [q.y] W5 W6 → MarkAt K CL CM W6 q.y names q'.m q'.ks → Q .non W6.H := fun q' W5 W6 ey ok' M5 s5 G5 mp5 md r6 => by
    have yo : q.y ∉ [p, c] := (G5.at_ q memq).out (st_noins s5)
    have yt : q.y ≠ tp := fun z => (G5.at_ q memq).out (lm_noins mp5) (by rw [z]; simp)
    have yp : q.y ≠ p := fun z => yo (by rw [z]; simp)
    have yc : q.y ≠ c := fun z => yo (by rw [z]; simp)
    exact k W6 (qs.set at' q') (M5.trans (inY md)) (s5.off md (by simpa using yp.symm) (by simpa using yc.symm)) (mp5.g md (by simpa using yt.symm)) (G5.set hqa md ey (by rw [ey]; exact r6) ok') (set_same (f := fun q : MQ => q.y) hqa ey)
  refine q_when (ε := pur) (et_test (ev_op (K := K) (ev_var (i := 6) (x := wi) rfl rfl) ev_int ro_eqI)) trivial (fun _ W3 g3 => ?_) (fun _ W3 g3 => ?_)
  · -- made smaller
    have s3 := s2.g g3.pure
    have G3 := G2.gr g3.pure
    have mp3 := mp2.gr g3.pure
    have r73 := rep_s g3 r7
    show tSeq _ _ _ (S2 none none none) W3.H
    refine q_asgP (ε := drw p c) (W := W3) (σ := S2 none none none) (ex_op (K := K) (P := fun x : Int => x = 1) (S := fun z : Int => 1 ≤ z ∧ z ≤ (q.m : Int)) (ex_of ev_int rfl) (ex_draw (i := 0) (n := (q.m : Int)) rfl (ev_op (K := K) (ev_var (i := 7) rfl r73) ev_int ro_plW) (by have := okq.lo; omega) (by have := okq.hi; omega)) (fun x y hx ⟨y0, y1⟩ => ⟨x + y, ⟨by subst hx; omega, by subst hx; omega⟩, ro_I0⟩)) s3 fun v8 W4 g4 ⟨ni, ⟨n1, n2⟩, e8⟩ => ?_
    rw [show v8 = V.int ni from e8]
    obtain ⟨n, rfl⟩ : ∃ n : Nat, ni = (n : Int) := ⟨ni.toNat, by omega⟩
    have s4 : St W4 p c := g4.i
    have G4 := G3.g g4.md (st_noins s3)
    have mp4 := mp3.g g4.md hS
    have r74 := rep_s g4 r73
    have M4 := (M2.trans (Grow.s g3.pure)).trans (inD g4.md)
    have rm4 := rep_s g4 (rep_s g3 rm2)
    show tSeq _ _ _ (S2 (some (.int (n : Nat))) none none) W4.H
    refine q_asgGM ?_
    refine ev_pl (K := K) (ε := pur) (w := (n : Int)) (ev_var (i := 8) rfl rfl) (ev_op (K := K) (ev_var (i := 7) rfl r74) ev_int ro_plS) W4 (.start trivial) _ fun vl W5 g5 r5 => ?_
    have mp5 := mp4.gr g5.pure
    refine g_setM (i := 2) (j := 4) (σ := S2 (some (.int (n : Nat))) none none) rfl rfl mp5 r5 (by rw [List.length_map]; exact ha') fun W6 md6 mp6 => ?_
    have e6 : (plnsM qs).set at' (PLn.mk (n : Int) q.S) = plnsM (qs.set at' (q.less n)) := setP (q := q.less n)
    rw [e6] at mp6
    have G6 := (G4.gr g5.pure).g md6 (lm_noins mp5)
    have s6 : St W6 p c := (s4.g g5.pure).off md6 (by simpa using ntp.symm) (by simpa using ntc.symm)
    have rm6 : rep K W6.B vm (rawsM qs) := rep_on md6.on (rep_s g5 rm4)
    have M6 := (M4.trans (Grow.s g5.pure)).trans (inS md6)
    refine retHM ?_
    refine mcall1E (K := K) (CL := CL) (W := W6) (σ := S2 (some (.int (n : Nat))) none none) (a := (n : Int)) (mkq rm6) (G6.at_ q memq) (by decide +kernel) (ev_var (i := 8) rfl rfl) fun v W7 g7 rv r7' => ⟨CL, W7, q.y, names, q.m, q.ks, v, .int n, rfl, rfl, r7', rv, .inl ⟨n, rfl, by omega, by omega, fun W8 md8 r8 => ?_⟩⟩
    exact fin (q.less n) W7 W8 rfl (okq.less (by omega) (by omega)) (M6.trans (Grow.s g7)) (s6.g g7) (G6.gr g7) (mp6.gr g7) md8 r8
  have s3 := s2.g g3.pure
  have G3 := G2.gr g3.pure
  have mp3 := mp2.gr g3.pure
  have r73 := rep_s g3 r7
  have rm3 := rep_s g3 rm2
  have ra3 := rep_s g3 ra2
  have M3 := M2.trans (Grow.s g3.pure)
  show tSeq _ _ _ (S2 none none none) W3.H
  obtain ⟨sa, sm, st, scs, hs1, hs2, hs3, hs4, hs5, hs6, hs7⟩ := id s3.ex
  have cnt : EvR pur K (tOp (rIxL K) (tVar 0) (tC (.int 3))) (S2 none none none) W3 st := fun W4 g4 Q k => by
    refine ⟨_, rfl, p, _, 3, _, rfl, rfl, SqL.of (g4.pure.h p _ hs1), rfl, ?_⟩
    exact k _ W4 g4.rf rfl
  refine q_when (ε := pur) (et_and (et_test (ev_op (K := K) (ev_var (i := 6) (x := wi) rfl rfl) ev_int ro_eqI)) fun _ => et_test (ev_op (K := K) cnt ev_int ro_B0)) trivial (fun _ W4 g4 => ?_) (fun _ W4 g4 => ?_)
  · -- poured
    have hs1' := g4.pure.h p _ hs1
    have hs2' := g4.pure.h c _ hs2
    have s4 := s3.g g4.pure
    have G4 := G3.gr g4.pure
    have mp4 := mp3.gr g4.pure
    have r74 := rep_s g4 r73
    have rm4 := rep_s g4 rm3
    have M4 := M3.trans (Grow.s g4.pure)
    show tSeq _ _ _ (S2 none none none) W4.H
    refine q_asgGM ?_
    refine ⟨_, rfl, p, _, 3, _, rfl, rfl, SqL.of hs1', rfl, _, _, rfl, rfl, _, rfl, p, _, _, 3, rfl, rfl, hs1', rfl, ?_⟩
    let W5 := W4.put p (.lst [.ref c, .int sa, .int sm, .int (st + 1)]) s4.bp
    have md5 : Md [p] W4 W5 := md_put s4.bp
    have s5 : St W5 p c := ⟨s4.bp, s4.bc, s4.ne, sa, sm, st + 1, scs, upd_same, (upd_ne s4.ne.symm).trans hs2', hs3, hs4, hs5, hs6, hs7⟩
    have pno : NoIns [p] W4 := fun a ha C dx fs e => st_noins s4 a (by rw [List.mem_singleton.mp ha]; simp) C dx fs e
    have G5 := G4.g md5 pno
    have mp5 := mp4.g md5 (by simpa using ntp)
    have r75 : rep K W5.B v7 (PLn.mk q.m q.S) := rep_on md5.on r74
    have rm5 : rep K W5.B vm (rawsM qs) := rep_on md5.on rm4
    have M5 := M4.trans (inP md5)
    show tSeq _ _ _ (S2 none none none) W5.H
    have pto : ∀ {W : Wd} {v8 v9 v10 : Option V}, LMut K W tp (plnsM qs) → EvR pur K (tOp (rIxL K) (tVar 2) (tVar 5)) (S2 v8 v9 v10) W (PLn.mk r.m r.S) := fun m => ev_ixM (i := 2) rfl m.pur (ev_var (i := 5) (x := (to' : Int)) rfl rfl) (atP hqt)
    have lr := okr.sl
    have lq := okq.sl
    have la := al.hi
    refine q_par (ε := pur) (P := fun v W => rep K W.B v ((min q.m r.m : Nat) : Int)) (R := fun v W => rep K W.B v (r.S.filter fun x => !decide (x ∈ q.S))) ((ev_cb2 (ev_op (K := K) (ev_var (i := 7) rfl r75) ev_int ro_plW) (ev_op (K := K) (pto mp5) ev_int ro_plW) rc_min2).is (by dsimp only; split <;> omega)).p
      (((ev_lcNt (α := Str) (p := fun x => !decide (x ∈ q.S)) (f := fun x => x) (EvJ.i (ei_tup (xs := Tup.mk r.S) (ev_op (K := K) (pto mp5) ev_int ro_plS))) (fun x v W' hx g rv => et_test (ev_op (K := K) (x := x) (y := Tup.mk q.S) (ev_var (i := 10) rfl rv) (ev_op (K := K) (ev_var (i := 7) rfl (rep_s g r75)) ev_int ro_plS) (ro_ninT (by decide)))) (fun x v W' hx hp g rv => ev_var (i := 10) rfl rv) (by show r.S.length ≤ 100000; omega)).is (by rw [List.map_id'])).p) trivial (fun v W W' g h => rep_s g h) fun v8 v9 W6 g6 r8 r9 => ?_
    have s6 := s5.g g6.pure
    have G6 := G5.gr g6.pure
    have mp6 := mp5.gr g6.pure
    have r76 := rep_s g6 r75
    have rm6 := rep_s g6 rm5
    have M6 := M5.trans (Grow.s g6.pure)
    show tSeq _ _ _ (S2 (some v8) (some v9) none) W6.H
    refine q_asgGM ?_
    refine ev_pl (K := K) (ε := pur) (w := ((min q.m r.m : Nat) : Int)) (S := q.S ++ r.S.filter fun x => !decide (x ∈ q.S)) (ev_var (i := 8) rfl r8) (ev_op (K := K) (ev_op (K := K) (ev_var (i := 7) rfl r76) ev_int ro_plS) (ev_cb1 (ev_var (i := 9) rfl r9) rc_tupL) (ro_catT (by
      show q.S.length + (r.S.filter _).length ≤ 100000
      have := List.length_filter_le (fun x => !decide (x ∈ q.S)) r.S
      omega))) W6 (.start trivial) _ fun vl W7 g7 r7' => ?_
    have mp7 := mp6.gr g7.pure
    refine g_setM (i := 2) (j := 4) (σ := S2 (some v8) (some v9) none) rfl rfl mp7 r7' (by rw [List.length_map]; exact ha') fun W8 md8 mp8 => ?_
    have e8 : (plnsM qs).set at' (PLn.mk ((min q.m r.m : Nat) : Int) (q.S ++ r.S.filter fun x => !decide (x ∈ q.S))) = plnsM (qs.set at' (q.both names r)) := setP (q := q.both names r)
    rw [e8] at mp8
    have G8 := (G6.gr g7.pure).g md8 (lm_noins mp7)
    have s8 : St W8 p c := (s6.g g7.pure).off md8 (by simpa using ntp.symm) (by simpa using ntc.symm)
    have rm8 : rep K W8.B vm (rawsM qs) := rep_on md8.on (rep_s g7 rm6)
    have M8 := (M6.trans (Grow.s g7.pure)).trans (inS md8)
    refine retHM ?_
    refine mcall1 (K := K) (CL := CL) (W := W8) (σ := S2 (some v8) (some v9) none) (a := Raw.mk (.ref r.y)) (mkq rm8) (G8.at_ q memq) (by decide +kernel) (ev_op (ev_var (i := 1) rfl rm8) (ev_var (i := 5) (x := (to' : Int)) rfl rfl) (ro_ixL (atR hqt))) fun v W9 g9 rv r9' => ?_
    rw [show v = V.ref r.y from rv]
    have memr : r ∈ qs := List.mem_of_getElem? hqt
    exact .inl ⟨W9, q.y, r.y, names, q.m, r.m, q.ks, r.ks, rfl, rfl, r9', (G8.gr g9).at_ r memr, okq.lo, okr.lo, okq.len, okr.len, by have := okq.hi; omega, by have := okr.hi; omega, fun W10 md10 r10 =>
      fin (q.both names r) W9 W10 rfl (okq.both nd okr) (M8.trans (Grow.s g9)) (s8.g g9) (G8.gr g9) (mp8.gr g9) md10 r10⟩
  · -- a letter is met
    have s4 := s3.g g4.pure
    have G4 := G3.gr g4.pure
    have mp4 := mp3.gr g4.pure
    have r74 := rep_s g4 r73
    have rm4 := rep_s g4 rm3
    have ra4 := rep_s g4 ra3
    have M4 := M3.trans (Grow.s g4.pure)
    have lo := al.lo
    have la := al.hi
    show tSeq _ _ _ (S2 none none none) W4.H
    refine q_asgP (ε := drw p c) (W := W4) (σ := S2 none none none) (ep_ixD (K := K) (xs := names) (ev_var (i := 3) rfl ra4) (ev_draw (i := 0) (n := (names.length : Int)) rfl (ev_cb1 (ev_var (i := 3) rfl ra4) rc_len) (by omega) (by omega))) s4 fun v10 W5 g5 ⟨x, hx, e10⟩ => ?_
    rw [show v10 = V.str x from e10]
    have s5 : St W5 p c := g5.i
    have G5 := G4.g g5.md (st_noins s4)
    have mp5 := mp4.g g5.md hS
    have r75 := rep_s g5 r74
    have rm5 := rep_s g5 rm4
    have M5 := M4.trans (inD g5.md)
    have lq := okq.sl
    show tSeq _ _ _ (S2 none none (some (.str x))) W5.H
    refine q_asgGM ?_
    refine ev_pl (K := K) (ε := pur) (w := (q.m : Int)) (S := q.S ++ (if (!decide (x ∈ q.S)) then [x] else [])) (ev_op (K := K) (ev_var (i := 7) rfl r75) ev_int ro_plW) (ev_op (K := K) (ev_op (K := K) (ev_var (i := 7) rfl r75) ev_int ro_plS) (ev_rep01 (ev_tupN (ea_cons (ev_var (i := 10) (x := x) rfl rfl) ea_nil) (by show 1 ≤ 100000; decide)) (ev_op (K := K) (x := x) (y := Tup.mk q.S) (ev_var (i := 10) rfl rfl) (ev_op (K := K) (ev_var (i := 7) rfl r75) ev_int ro_plS) (ro_ninT (by decide)))) (ro_catT (by
      show q.S.length + (if (!decide (x ∈ q.S)) then [x] else ([] : List Str)).length ≤ 100000
      split <;> simp <;> omega))) W5 (.start trivial) _ fun vl W7 g7 r7' => ?_
    have mp7 := mp5.gr g7.pure
    refine g_setM (i := 2) (j := 4) (σ := S2 none none (some (.str x))) rfl rfl mp7 r7' (by rw [List.length_map]; exact ha') fun W8 md8 mp8 => ?_
    have e8 : (plnsM qs).set at' (PLn.mk (q.m : Int) (q.S ++ (if (!decide (x ∈ q.S)) then [x] else []))) = plnsM (qs.set at' (q.more names x)) := by
      rw [show (if (!decide (x ∈ q.S)) then [x] else []) = (if x ∈ q.S then ([] : List Str) else [x]) from by by_cases c : x ∈ q.S <;> simp [c]]
      exact setP (q := q.more names x)
    rw [e8] at mp8
    have G8 := (G5.gr g7.pure).g md8 (lm_noins mp7)
    have s8 : St W8 p c := (s5.g g7.pure).off md8 (by simpa using ntp.symm) (by simpa using ntc.symm)
    have rm8 : rep K W8.B vm (rawsM qs) := rep_on md8.on (rep_s g7 rm5)
    have M8 := (M5.trans (Grow.s g7.pure)).trans (inS md8)
    refine retHM ?_
    refine mcall1 (K := K) (CL := CL) (W := W8) (σ := S2 none none (some (.str x))) (a := x) (mkq rm8) (G8.at_ q memq) (by decide +kernel) (ev_var (i := 10) rfl rfl) fun v W9 g9 rv r9' => ?_
    rw [show v = V.str x from rv]
    exact ⟨W9, q.y, .str x, names, q.m, q.ks, true, rfl, rfl, r9', letk_word (al.ok x hx), by have := okq.len; have := okq.hi; omega, .inl ⟨x, rfl, hx, fun W10 md10 r10 =>
      fin (q.more names x) W9 W10 rfl (okq.more nd hx) (M8.trans (Grow.s g9)) (s8.g g9) (G8.gr g9) (mp8.gr g9) md10 r10⟩⟩
end
end B
/-! k13: what is none is refused -/
namespace B
open PySem L2
open PySem.W (Tup T3 T4 Datum DatumOrd)
open Evl (Ex)
theorem upper_out {s : Str} (h : IsWord s) : ¬ IsWord (Txt.upper s) := fun h2 => by
  have h0 : 0 < s.cps.size := h.lo
  have hm : s.cps[0] - 32 ∈ (Txt.upper s).cps.toList := by
    show _ ∈ (placed s fun _ c => Unicode.upperOf c).toList
    unfold placed
    rw [Array.mem_toList_iff, Array.mem_flatten]
    have hc := h.ok s.cps[0] (by rw [Array.mem_toList_iff]; exact Array.getElem_mem h0)
    refine ⟨_, Array.mem_mapIdx.mpr ⟨0, h0, rfl⟩, ?_⟩
    show _ ∈ (Unicode.upperOf s.cps[0]).toArray
    rw [up_sign hc.1 hc.2]
    simp
  have h3 := h2.ok _ hm
  have hc := h.ok s.cps[0] (by rw [Array.mem_toList_iff]; exact Array.getElem_mem h0)
  omega
theorem letk_ol {K : Fg} {W : Wd} {v : V} : ∀ {o : OL}, rep K W.B v o → o.ok → ∃ b, LetK K v b W
  | .str s, h, ok => ⟨_, .inl ⟨s, h, Nat.le_trans ok.ln (by decide), rfl⟩⟩
  | .int n, h, _ => ⟨_, .inr ⟨"int", fun W' g => ty_int W' v (rep_g g h), by decide +kernel, fun s e => (by rw [show v = V.int n from h] at e; cases e), rfl⟩⟩
  | .bl n, h, _ => ⟨_, .inr ⟨"bool", fun W' g => ty_bl W' v (rep_g g h), by decide +kernel, fun s e => (by rw [show v = V.bl n from h] at e; cases e), rfl⟩⟩
  | .non, h, _ => ⟨_, .inr ⟨"NoneType", fun W' g => ty_non W' v (rep_g g h), by decide +kernel, fun s e => (by rw [show v = V.non from h] at e; cases e), rfl⟩⟩
  | .tup n, h, _ => ⟨_, .inr ⟨"tuple", fun W' g => ty_tup W' v (rep_g (x := Tup.mk n) g h), by decide +kernel, fun s e => (by obtain ⟨a, vs, e2, _⟩ := (show rep K W.B v (Tup.mk n) from h); rw [e2] at e; cases e), rfl⟩⟩
  | .lst n, h, _ => ⟨_, .inr ⟨"list", fun W' g => ty_lst W' v (rep_g (x := n) g h), by decide +kernel, fun s e => (by obtain ⟨a, vs, e2, _⟩ := (show rep K W.B v n from h); rw [e2] at e; cases e), rfl⟩⟩
  | .dct, h, _ => ⟨_, .inr ⟨"dict", fun W' g => ty_dct W' v (rep_g (x := (⟨[]⟩ : Dict Int Int)) g h), by decide +kernel, fun s e => (by obtain ⟨a, vs, e2, _⟩ := (show rep K W.B v (⟨[]⟩ : Dict Int Int) from h); rw [e2] at e; cases e), rfl⟩⟩
theorem hasB_ol {K : Fg} {H : Hp} {v : V} {names : List Str} : ∀ {o : OL}, rep K H v o → hasB names v = o.inB names
  | .str s, h => by rw [show v = V.str s from h]; rfl
  | .int n, h => by rw [show v = V.int n from h]; rfl
  | .bl n, h => by rw [show v = V.bl n from h]; rfl
  | .non, h => by rw [show v = V.non from h]; rfl
  | .tup n, h => by obtain ⟨a, vs, e2, _⟩ := (show rep K H v (Tup.mk n) from h); rw [e2]; rfl
  | .lst n, h => by obtain ⟨a, vs, e2, _⟩ := (show rep K H v n from h); rw [e2]; rfl
  | .dct, h => by obtain ⟨a, vs, e2, _⟩ := (show rep K H v (⟨[]⟩ : Dict Int Int) from h); rw [e2]; rfl
/-- of what class no marks are -/
structure NotMk (K : Fg) (CL CJ CM : Addr) : Prop where
  n : PySem.W.kitOne K (.type "NoneType") (.ref CM) = some false
  i : PySem.W.kitOne K (.type "int") (.ref CM) = some false
  t : PySem.W.kitOne K (.type "tuple") (.ref CM) = some false
  l : PySem.W.kitOne K (.type "list") (.ref CM) = some false
  j : PySem.W.kitOne K (.ref CJ) (.ref CM) = some false
  c : PySem.W.kitOne K (.ref CL) (.ref CM) = some false
/-- no marks of these letters -/
def OddM (K : Fg) (CL CM : Addr) (names : List Str) (u : V) (W : Wd) : Prop := u = .non ∨ u = .int 5 ∨ (∃ xs : List Str, rep K W.B u (Tup.mk xs)) ∨ (∃ (j dx C : Addr) (fs : List (Str × V)), u = .ref j ∧ W.H j = some (.ins C dx fs) ∧ ClsI K C ∧ PySem.W.kitOne K (.ref C) (.ref CM) = some false) ∨
  ∃ (z : Addr) (n2 : List Str) (n : Nat) (ls : List Str), u = .ref z ∧ MarkAt K CL CM W z n2 n ls ∧ n2 ≠ names
section
variable {K : Fg} {CL CJ CM : Addr} {names : List Str} {u : V} {W W' : Wd} {S : List Addr}
theorem OddM.g (h : OddM K CL CM names u W) (g : Md S W W') (hS : NoIns S W) : OddM K CL CM names u W' := by
  rcases h with h | h | ⟨xs, h⟩ | ⟨j, dx, C, fs, e, h, hc⟩ | ⟨z, n2, n, ls, e, r, ne⟩
  · exact .inl h
  · exact .inr (.inl h)
  · exact .inr (.inr (.inl ⟨xs, Py.mono (exExt g.b) h⟩))
  · exact .inr (.inr (.inr (.inl ⟨j, dx, C, fs, e, g.o j _ (fun y => hS j y _ _ _ h) h, hc⟩)))
  · exact .inr (.inr (.inr (.inr ⟨z, n2, n, ls, e, r.g g (r.out hS), ne⟩)))
theorem OddM.no (h : OddM K CL CM names u W) (nk : NotMk K CL CJ CM) : NoMk K CM u W ∨ ∃ (z : Addr) (n2 : List Str) (n : Nat) (ls : List Str), u = .ref z ∧ MarkAt K CL CM W z n2 n ls ∧ names ≠ n2 := by
  rcases h with rfl | rfl | ⟨xs, h⟩ | ⟨j, dx, C, fs, rfl, h, hc1, hc2⟩ | ⟨z, n2, n, ls, e, r, ne⟩
  · exact .inl ⟨.type "NoneType", fun W' g => ty_non W' _ rfl, nk.n⟩
  · exact .inl ⟨.type "int", fun W' g => ty_int (i := 5) W' _ rfl, nk.i⟩
  · exact .inl ⟨.type "tuple", fun W' g => ty_tup (xs := Tup.mk xs) W' _ (rep_g g h), nk.t⟩
  · exact .inl ⟨.ref C, fun W' g => hc1.ty (g.h j _ h), hc2⟩
  · exact .inr ⟨z, n2, n, ls, e, r, ne.symm⟩
end
def sp__law_refused_poured (K : Fg) (CL CM : Addr) : Sp := fun vs H Q _ => ∃ (W : Wd) (y : Addr) (names : List Str) (m : Nat) (ks : List Str) (u : V), W.H = H ∧ vs = [.ref y, u] ∧ MarkAt K CL CM W y names m ks ∧ OddM K CL CM names u W ∧ TabAt W (tabP K "_law_refused_poured") (qLam "_law_refused_poured") ∧ ∀ W', Md [tabP K "_law_refused_poured"] W W' → TabAt W' (tabP K "_law_refused_poured") (qLam "_law_refused_poured") → Q (.str "keeper") W'.H
theorem len__law_refused_poured {K : Fg} {CL CM : Addr} {vs : List V} {H : Hp} {Q : VK} {E : XK} (h : sp__law_refused_poured K CL CM vs H Q E) : vs.length = ["_law_mark", "_law_other"].length := by
  obtain ⟨W, y, names, m, ks, u, _, rfl, _⟩ := h
  rfl
/-- _law_refused_poured: the slots 0 _law_mark, 1 _law_other -/
abbrev n__law_refused_poured : List Str := ["_law_mark", "_law_other"]
def t__law_refused_poured (K : Fg) (c_Letters : Addr) (c_Marks : Addr) : TS := (tRet (LM.tLm (tabP K "_law_refused_poured") (qLam "_law_refused_poured") (TTref K (cErr K "LeftError") (sp__law_word K)) (fun E => (tMeth c_Marks "pour" (sp_Marks_pour K c_Letters c_Marks) [] E (tVar 0) (tCons (tVar 1) tNil)))))
/-- kinds of numbers that were drawn -/
def Odd.okN : Odd → Prop
  | .tup _ => False
  | .dct => False
  | _ => True
def Odd.inR : Odd → Bool
  | .int i => decide (1 ≤ i ∧ i < 1 + (8 : Nat))
  | .bl b => decide ((1 : Int) ≤ (if b then (1 : Int) else 0) ∧ (if b then (1 : Int) else 0) < 1 + (8 : Nat))
  | _ => false
def Odd.notT : Odd → Bool
  | .bl b => !decide (b = true)
  | _ => true
def sp__law_refused_first (K : Fg) (CL CM : Addr) : Sp := fun vs H Q _ => ∃ (W : Wd) (va u : V) (names : List Str) (o : Odd), W.H = H ∧ vs = [va, u] ∧ rep K W.B va names ∧ Alpha names ∧ rep K W.B u o ∧ o.okN ∧ TabAt W (tabP K "_law_refused_first") (qLam "_law_refused_first") ∧ ∀ W', Md [tabP K "_law_refused_first"] W W' → TabAt W' (tabP K "_law_refused_first") (qLam "_law_refused_first") → Q (.str "many") W'.H
theorem len__law_refused_first {K : Fg} {CL CM : Addr} {vs : List V} {H : Hp} {Q : VK} {E : XK} (h : sp__law_refused_first K CL CM vs H Q E) : vs.length = ["_law_alphabet_here", "_law_number"].length := by
  obtain ⟨W, va, u, names, o, _, rfl, _⟩ := h
  rfl
/-- _law_refused_first: the slots 0 _law_alphabet_here, 1 _law_number -/
abbrev n__law_refused_first : List Str := ["_law_alphabet_here", "_law_number"]
def t__law_refused_first (K : Fg) (c_Letters : Addr) (c_Marks : Addr) : TS := (tSeq (tIfS (tAnd (tTest (tOp (rInRngX K) (tVar 1) (tCB rRng2 (tCons (tC (.int 1)) (tCons (tC (.int 9)) tNil))))) (tTest (tOp oNotIsX (tVar 1) (tC (.bl true))))) (tRet (tC (.str "many"))) tNext)
  (tRet (LM.tLm (tabP K "_law_refused_first") (qLam "_law_refused_first") (TTref K (cErr K "LeftError") (sp__law_word K)) (fun E => (tMake c_Marks (sp_Marks___init__ K c_Letters c_Marks) [] E (tCons (tMake c_Letters (sp_Letters___init__ K c_Letters) [] E0 (tCons (tVar 0) tNil)) (tCons (tVar 1) tNil)))))))
section
variable {K : Fg} {vs : List V} {H : Hp} {Q : VK} {E : XK} {CL CJ CM : Addr}
theorem hj3 : names12[3]? = some ("NoKeeper" : Str) := by decide +kernel
theorem hw3 : words12[3]? = some ("keeper" : Str) := by decide +kernel
theorem hj2 : names12[2]? = some ("NoMany" : Str) := by decide +kernel
theorem hw2 : words12[2]? = some ("many" : Str) := by decide +kernel
theorem hj0 : names12[0]? = some ("NoLetter" : Str) := by decide +kernel
theorem hw0 : words12[0]? = some ("letter" : Str) := by decide +kernel
theorem mf_pour : ¬ ("pour" : Str) = "own_letters" ∧ ¬ ("pour" : Str) = "mark_number" ∧ ¬ ("pour" : Str) = "marked" := by decide +kernel
theorem rd__law_refused_poured (cl : LettersC K CL) (cm : MarksC K CM) (rk : Refd K "NoKeeper") (nk : NotMk K CL CJ CM) (h : sp__law_refused_poured K CL CM vs H Q E) : t__law_refused_poured K CL CM { nx := fun _ H' => Q .non H', rt := Q } (start n__law_refused_poured vs) H := by
  obtain ⟨W, y, names, m, ks, u, rfl, rfl, r, od, t, k⟩ := h
  refine s_ret (ε := lamE (tabP K "_law_refused_poured") (qLam "_law_refused_poured")) (K := K) (σ := [some (.ref y), some u]) (ev_refusedF (C := cErr K "NoKeeper") (w := "keeper") rk.l (wordF rk hj3 hw3) fun W1 md E Q kk => ?_) t fun v W' g rv => ?_
  · have r1 := r.g md (r.out (tab_noins t))
    have od1 := od.g md (tab_noins t)
    obtain ⟨dy, l, w, hy, _⟩ := id r1.ex
    exact ⟨_, rfl, y, dy, _, rfl, hy, mf_no mf_pour.1 mf_pour.2.1 mf_pour.2.2, _, rfl, .inr ⟨W1, y, u, names, m, ks, rfl, rfl, r1, od1.no nk, fun W2 g2 => kk W2 none g2 (FldAt.non W2)⟩⟩
  · rw [show v = V.str "keeper" from rv]
    exact k W' g.md g.i
theorem e_marksBad {W : Wd} {σ : SS} {tl tn : TE} {names : List Str} {o : Odd} {E : XK} {Q : VK} (hl : EvP pur tl σ W (LetAt K CL names)) (hn : EvR pur K tn σ W o) (bad : ∀ a : Int, o = .int a → ¬ (1 ≤ a ∧ a ≤ 8)) (k : ∀ W', Grow W W' → E (.ref (cErr K "NoMany")) none W'.H) :
    tMake CM (sp_Marks___init__ K CL CM) [] E (tCons tl (tCons tn tNil)) σ W.H Q := hl W (.start trivial) _ fun vl W1 g1 hl1 => hn W1 g1 _ fun v2 W2 g2 r2 y dx hy hdx ne => by
  let Wa := W2.put dx (.own y) (W2.free hdx)
  have ga : Grow W2 Wa := W2.grow_put hdx
  have hy' : Wa.H y = none := (upd_ne ne.symm).trans hy
  let Wb := Wa.put y (.ins CM dx []) (Wa.free hy')
  have gb : Grow Wa Wb := Wa.grow_put hy'
  have gab := ga.trans gb
  exact ⟨Wb, y, dx, vl, v2, names, o, rfl, rfl, Wa.free hy', upd_same, ((hl1.s g2).g ga).g gb, rep_g gab r2, .inr ⟨bad, fun W3 g3 => k W3 ((g1.trans g2).pure.trans (gab.trans g3))⟩⟩
theorem ev_inR {W : Wd} {σ : SS} {i : Nat} {u : V} {o : Odd} (h : σ[i]? = some (some u)) (r : rep K W.B u o) (ok : o.okN) : EvR pur K (tOp (rInRngX K) (tVar i) (tCB rRng2 (tCons (tC (.int 1)) (tCons (tC (.int 9)) tNil)))) σ W o.inR := fun W1 g1 Q k => by
  have r1 := rep_s g1 r
  refine ⟨u, h, 1, 9, rfl, fun p hp => ⟨p, 1, 8, rfl, upd_same, ?_⟩⟩
  have g2 : Grow W1 (W1.add p (.rng 1 9)) := W1.grow_add hp
  have r2 := rep_g g2 r1
  have kk := k (.bl o.inR) (W1.add p (.rng 1 9)) (.of g2) rfl
  cases o with
  | int n => exact .inl ⟨n, r1, kk⟩
  | bl b => exact .inr (.inl ⟨b, r1, kk⟩)
  | non => exact .inr (.inr ⟨.inl r1, kk⟩)
  | str s => exact .inr (.inr ⟨.inr (.inl ⟨s, r1⟩), kk⟩)
  | lst ns =>
    obtain ⟨a, vs, e1, s, _⟩ := (show rep K (W1.add p (.rng 1 9)).B u ns from r2)
    exact .inr (.inr ⟨.inr (.inr (.inl ⟨a, vs, e1, SqL.of ((W1.add p (.rng 1 9)).sub.el s)⟩)), kk⟩)
  | tup ns => exact False.elim ok
  | dct => exact False.elim ok
theorem ev_notT {W : Wd} {σ : SS} {i : Nat} {u : V} {o : Odd} (h : σ[i]? = some (some u)) (r : rep K W.B u o) (ok : o.inR = true) : EvR pur K (tOp oNotIsX (tVar i) (tC (.bl true))) σ W o.notT := fun W1 g1 Q k => by
  have r1 := rep_s g1 r
  have kk := k (.bl o.notT) W1 g1.rf rfl
  cases o with
  | int n => exact ⟨u, h, .inr ⟨n, true, r1, rfl, kk⟩⟩
  | bl b => exact ⟨u, h, .inl ⟨b, true, r1, rfl, kk⟩⟩
  | non => cases ok
  | str s => cases ok
  | lst ns => cases ok
  | tup ns => cases ok
  | dct => cases ok
theorem rd__law_refused_first (cl : LettersC K CL) (cm : MarksC K CM) (rm : Refd K "NoMany") (h : sp__law_refused_first K CL CM vs H Q E) : t__law_refused_first K CL CM { nx := fun _ H' => Q .non H', rt := Q } (start n__law_refused_first vs) H := by
  obtain ⟨W, va, u, names, o, rfl, rfl, ra, al, ro, ok, t, k⟩ := h
  refine q_when (ε := pur) (b := o.inR && o.notT) (σ := [some va, some u]) (et_and (et_test (ev_inR (i := 1) rfl ro ok)) fun hb => et_test (ev_notT (i := 1) rfl ro hb)) trivial (fun hb W1 g1 => ?_) (fun hb W1 g1 => ?_)
  · exact k W1 (Grow.s g1.pure) (t.gr g1.pure)
  have bad : ∀ a : Int, o = .int a → ¬ (1 ≤ a ∧ a ≤ 8) := fun a e hh => by
    subst e
    have : decide (1 ≤ a ∧ a < 1 + (8 : Nat)) = true := decide_eq_true ⟨hh.1, by omega⟩
    rw [show Odd.inR (.int a) = decide (1 ≤ a ∧ a < 1 + (8 : Nat)) from rfl, this] at hb
    cases hb
  have t1 := t.gr g1.pure
  have ra1 := rep_s g1 ra
  have ro1 := rep_s g1 ro
  refine s_ret (ε := lamE (tabP K "_law_refused_first") (qLam "_law_refused_first")) (K := K) (σ := [some va, some u]) (ev_refusedF (C := cErr K "NoMany") (w := "many") rm.l (wordF rm hj2 hw2) fun W2 md E Q kk =>
    e_marksBad (K := K) (CL := CL) (CM := CM) (σ := [some va, some u]) (W := W2) (names := names) (ep_letters (K := K) (C := CL) (ε := pur) (names := names) (fun _ _ _ _ h => h) (ev_var (i := 0) rfl (Py.mono (exExt md.b) ra1)) al) (ev_var (i := 1) rfl (Py.mono (exExt md.b) ro1)) bad (fun W' g => kk W' none g (FldAt.non W'))) t1 fun v W' g rv => ?_
  rw [show v = V.str "many" from rv]
  exact k W' ((Grow.s g1.pure).trans g.md) g.i
end
end B
/-! k13: all refusals of a turn -/
namespace B
open PySem L2
open PySem.W (Tup T3 T4 Datum DatumOrd)
open Evl (Ex)
/-- the tables of the lambdas of three defs -/
structure Tabs3 (K : Fg) (W : Wd) : Prop where
  f : TabAt W (tabP K "_law_refused_first") (qLam "_law_refused_first")
  p : TabAt W (tabP K "_law_refused_poured") (qLam "_law_refused_poured")
  r : TabAt W (tabP K "_law_refused_right") (qLam "_law_refused_right")
abbrev tabsL (K : Fg) : List Addr := [tabP K "_law_refused_first", tabP K "_law_refused_poured", tabP K "_law_refused_right"]
structure TabD (K : Fg) : Prop where
  fp : tabP K "_law_refused_first" ≠ tabP K "_law_refused_poured"
  fr : tabP K "_law_refused_first" ≠ tabP K "_law_refused_right"
  pr : tabP K "_law_refused_poured" ≠ tabP K "_law_refused_right"
section
variable {K : Fg} {W W' : Wd} {S : List Addr}
theorem Tabs3.g (t : Tabs3 K W) (g : Md S W W') (h : ∀ a ∈ tabsL K, a ∉ S) : Tabs3 K W' := ⟨t.f.g g (h _ (by simp)), t.p.g g (h _ (by simp)), t.r.g g (h _ (by simp))⟩
theorem Tabs3.gr (t : Tabs3 K W) (g : Grow W W') : Tabs3 K W' := ⟨t.f.gr g, t.p.gr g, t.r.gr g⟩
theorem Tabs3.noins (t : Tabs3 K W) : NoIns (tabsL K) W := fun a ha C dx fs e => by
  simp only [tabsL, List.mem_cons, List.not_mem_nil, or_false] at ha
  rcases ha with rfl | rfl | rfl
  · exact tab_noins t.f _ (by simp) C dx fs e
  · exact tab_noins t.p _ (by simp) C dx fs e
  · exact tab_noins t.r _ (by simp) C dx fs e
theorem Tabs3.setF (d : TabD K) (t : Tabs3 K W) (g : Md [tabP K "_law_refused_first"] W W') (n : TabAt W' (tabP K "_law_refused_first") (qLam "_law_refused_first")) : Tabs3 K W' := ⟨n, t.p.g g (by simpa using d.fp.symm), t.r.g g (by simpa using d.fr.symm)⟩
theorem Tabs3.setP (d : TabD K) (t : Tabs3 K W) (g : Md [tabP K "_law_refused_poured"] W W') (n : TabAt W' (tabP K "_law_refused_poured") (qLam "_law_refused_poured")) : Tabs3 K W' := ⟨t.f.g g (by simpa using d.fp), n, t.r.g g (by simpa using d.pr.symm)⟩
theorem Tabs3.setR (d : TabD K) (t : Tabs3 K W) (g : Md [tabP K "_law_refused_right"] W W') (n : TabAt W' (tabP K "_law_refused_right") (qLam "_law_refused_right")) : Tabs3 K W' := ⟨t.f.g g (by simpa using d.fr), t.p.g g (by simpa using d.pr), n⟩
end
def sp__law_refused_right (K : Fg) (CL CJ CM : Addr) : Sp := fun vs H Q _ => ∃ (W : Wd) (p c y : Addr) (va : V) (names : List Str) (m : Nat) (ks : List Str), W.H = H ∧ vs = [.ref p, .ref y, va, .int m] ∧ St W p c ∧ MarkAt K CL CM W y names m ks ∧ 1 ≤ m ∧ m ≤ 8 ∧ ks.length ≤ 1000 ∧ rep K W.B va names ∧ Alpha names ∧ Tabs3 K W ∧ p ∉ tabsL K ∧ c ∉ tabsL K ∧
  ∀ W', Md (p :: c :: tabsL K) W W' → St W' p c → Tabs3 K W' → Q (.bl true) W'.H
theorem len__law_refused_right {K : Fg} {CL CJ CM : Addr} {vs : List V} {H : Hp} {Q : VK} {E : XK} (h : sp__law_refused_right K CL CJ CM vs H Q E) : vs.length = ["_law_state", "_law_mark", "_law_alphabet_here", "_law_wide"].length := by
  obtain ⟨W, p, c, y, va, names, m, ks, _, rfl, _⟩ := h
  rfl
/-- _law_refused_right: the slots 0 _law_state, 1 _law_mark, 2 _law_alphabet_here, 3 _law_wide, 4 _law_number, 5 _law_strange, 6 _law_mirror, 7 _law_other -/
abbrev n__law_refused_right : List Str := ["_law_state", "_law_mark", "_law_alphabet_here", "_law_wide", "_law_number", "_law_strange", "_law_mirror", "_law_other"]
def t__law_refused_right (K : Fg) (c_Letters : Addr) (c_Jars : Addr) (c_Marks : Addr) : TS := (tSeq (tAsg (tOp (rIxL K) (tLst (tCons (tC (.int 0)) (tCons (tOp oAdd (tVar 3) (tC (.int 1))) (tCons (tC (.int 9)) (tCons (tC (.bl true)) (tCons (tC .non) (tCons (tC (.str "1")) (tCons (tLst (tCons (tC (.int 1)) tNil)) (tCons (tUn oNeg (tC (.int 1))) tNil))))))))) (tCall (sp__law_draw K) [] E0 (tCons (tVar 0) (tCons (tC (.int 8)) tNil)))) (gName 4))
  (tSeq (tAsg (tOp (rIxL K) (tLst (tCons (tC (.str "")) (tCons (tC (.str "A")) (tCons (tC (.str "abcdefg")) (tCons (tC .non) (tCons (tC (.int 5)) (tCons (tC (.bl true)) (tCons (tLst tNil) (tCons (tTup (tCons (tOp (rIxL K) (tVar 2) (tC (.int 0))) tNil)) (tCons tDNewK (tCons (tM0 rUpper (tOp (rIxL K) (tVar 2) (tC (.int 0)))) tNil))))))))))) (tCall (sp__law_draw K) [] E0 (tCons (tVar 0) (tCons (tC (.int 10)) tNil)))) (gName 5))
  (tSeq (tAsg (tIf (tTest (tOp oGt (tCB (rLen K) (tCons (tVar 2) tNil)) (tC (.int 1)))) (tMake c_Marks (sp_Marks___init__ K c_Letters c_Marks) [] E0 (tCons (tMake c_Letters (sp_Letters___init__ K c_Letters) [] E0 (tCons (tRevL K (tVar 2)) tNil)) (tCons (tC (.int 2)) tNil))) (tC .non)) (gName 6))
  (tSeq (tAsg (tOp (rIxL K) (tLst (tCons (tVar 6) (tCons (tC .non) (tCons (tMake c_Jars (sp_Jars___init__ K c_Letters c_Jars) [] E0 (tCons (tMake c_Letters (sp_Letters___init__ K c_Letters) [] E0 (tCons (tVar 2) tNil)) (tCons (tC (.int 2)) tNil))) (tCons (tTup tNil) (tCons (tC (.int 5)) (tCons (tMake c_Letters (sp_Letters___init__ K c_Letters) [] E0 (tCons (tVar 2) tNil)) tNil))))))) (tCall (sp__law_draw K) [] E0 (tCons (tVar 0) (tCons (tC (.int 6)) tNil)))) (gName 7))
  (tSeq (tIfS (tOr (tTest (tOp rNe (LM.tLm (tabP K "_law_refused_right") (qLam "_law_refused_right") (TTref K (cErr K "LeftError") (sp__law_word K)) (fun E => (tMeth c_Marks "made_smaller" (sp_Marks_made_smaller K c_Marks) [] E (tVar 1) (tCons (tVar 4) tNil)))) (tC (.str "many")))) (tTest (tOp rNe (tCall (sp__law_refused_first K c_Letters c_Marks) [] E0 (tCons (tVar 2) (tCons (tVar 4) tNil))) (tC (.str "many"))))) (tRet (tC (.bl false))) tNext)
  (tRet (tOp rEq (tOp oCatS (LM.tLm (tabP K "_law_refused_right") (qLam "_law_refused_right") (TTref K (cErr K "LeftError") (sp__law_word K)) (fun E => (tMeth c_Marks "meet" (sp_Marks_meet K c_Letters c_Marks) [] E (tVar 1) (tCons (tVar 5) tNil)))) (tCall (sp__law_refused_poured K c_Letters c_Marks) [] E0 (tCons (tVar 1) (tCons (tVar 7) tNil)))) (tC (.str "letterkeeper")))))))))
/-- things, each with what is told of it -/
def EvAsP (ε : Ef) (ta : TA) (σ : SS) (W : Wd) (n : Nat) (P : V → Wd → Prop) : Prop :=
  ∀ W1, Stp ε W W1 → ∀ Q : List V → Hp → Prop, (∀ vs W2, Stp ε W1 W2 → vs.length = n → (∀ v ∈ vs, P v W2) → Q vs W2.H) → ta σ W1.H Q
section
variable {ε : Ef} {σ : SS} {W : Wd} {P : V → Wd → Prop} {te : TE} {ta : TA} {n : Nat}
theorem eap_nil : EvAsP ε tNil σ W 0 P := fun W1 g1 Q k => k [] W1 g1.rf rfl fun v h => by cases h
theorem eap_cons (mono : ∀ v W W', Stp ε W W' → P v W → P v W') (h : EvP ε te σ W P) (hr : EvAsP ε ta σ W n P) : EvAsP ε (tCons te ta) σ W (n + 1) P := fun W1 g1 Q k => h W1 g1 _ fun v W2 g2 pv => hr W2 (g1.trans g2) _ fun vs W3 g3 hl hp => k (v :: vs) W3 (g2.trans g3) (by rw [List.length_cons, hl]) fun u hu => by
  rcases List.mem_cons.mp hu with rfl | hu
  · exact mono u W2 W3 g3 pv
  · exact hp u hu
theorem ep_ifPM {b : Bool} {tt : TT} {ta tb : TE} {R : V → Wd → Prop} (h : EvT ε tt σ W b) (h1 : b = true → EvP ε ta σ W R) (h2 : b = false → EvP ε tb σ W R) : EvP ε (tIf tt ta tb) σ W R := fun W1 g1 Q k => h W1 g1 _ fun W2 g2 => by
  cases b with
  | true => exact h1 rfl W2 (g1.trans g2) _ fun v W3 g3 r => k v W3 (g2.trans g3) r
  | false => exact h2 rfl W2 (g1.trans g2) _ fun v W3 g3 r => k v W3 (g2.trans g3) r
end
theorem orIfH {t u : TT} {A B : TS} {tz : TS} {D : Ends} {σ : SS} {H : Hp} (h : t σ H fun b1 H1 => if b1 = true then (if true = true then A { D with nx := tz D } σ H1 else B { D with nx := tz D } σ H1) else u σ H1 fun b2 H2 => if b2 = true then A { D with nx := tz D } σ H2 else B { D with nx := tz D } σ H2) : tSeq (tIfS (tOr t u) A B) tz D σ H := h
theorem q_asgHM {i : Nat} {te : TE} {tz : TS} {D : Ends} {σ : SS} {H : Hp} (h : te σ H fun v H1 => tz D (σ.set i (some v)) H1) : tSeq (tAsg te (gName i)) tz D σ H := h
theorem ixH {K : Fg} {ta tb : TE} {σ : SS} {H : Hp} {Q : VK} (h : ta σ H fun x H1 => tb σ H1 fun y H2 => rIxL K x y H2 Q) : tOp (rIxL K) ta tb σ H Q := h
theorem lstHM {ta : TA} {σ : SS} {H : Hp} {Q : VK} (h : ta σ H fun vs H1 => vs.length ≤ sizeLine ∧ ∀ p, H1 p = none → Q (.ref p) (upd H1 p (.lst vs))) : tLst ta σ H Q := h
theorem cat2H {ta tb tc : TE} {D : Ends} {σ : SS} {H : Hp} (h : ta σ H fun x H1 => tb σ H1 fun y H2 => oCatS x y H2 fun z H3 => tc σ H3 fun w H4 => rEq z w H4 D.rt) : tRet (tOp rEq (tOp oCatS ta tb) tc) D σ H := h
theorem alpha_revM {names : List Str} (al : Alpha names) : Alpha names.reverse := ⟨by rw [List.length_reverse]; exact al.lo, by rw [List.length_reverse]; exact al.hi, (List.reverse_perm names).nodup_iff.mpr al.nd, fun n hn => al.ok n (List.mem_reverse.mp hn)⟩
theorem rev_neM {L : List Str} (n : L.Nodup) (l : 2 ≤ L.length) : L.reverse ≠ L := fun e2 => by
  match L, l, n, e2 with
  | a :: b :: M, _, n, e2 =>
    rw [List.reverse_cons] at e2
    obtain ⟨c, N, e3⟩ : ∃ c N, (b :: M).reverse = c :: N := by
      cases e4 : (b :: M).reverse with
      | nil => simp at e4
      | cons c N => exact ⟨c, N, rfl⟩
    rw [e3, List.cons_append, List.cons.injEq] at e2
    have : c ∈ (b :: M).reverse := by rw [e3]; exact List.mem_cons_self
    rw [e2.1] at this
    exact (List.nodup_cons.mp n).1 (List.mem_reverse.mp this)
theorem no_A : ¬ IsWord ("A" : Str) := fun w => by
  have := w.ok 65 (by decide +kernel)
  omega
theorem no_E : ¬ IsWord ("" : Str) := fun w => by
  have := w.lo
  have e : (("" : Str)).length = 0 := by decide +kernel
  omega
theorem no_G : ¬ IsWord ("abcdefg" : Str) := fun w => by
  have := w.hi
  have e : (("abcdefg" : Str)).length = 7 := by decide +kernel
  omega
def oddsN (m : Nat) : List Odd := [.int 0, .int ((m : Int) + 1), .int 9, .bl true, .non, .str "1", .lst [1], .int (-1)]
theorem odds_bad {m : Nat} (h8 : m ≤ 8) : ∀ o ∈ oddsN m, o.okN ∧ ∀ a : Int, o = .int a → ¬ (1 ≤ a ∧ a ≤ (m : Int)) := fun o ho => by
  simp only [oddsN, List.mem_cons, List.not_mem_nil, or_false] at ho
  rcases ho with rfl | rfl | rfl | rfl | rfl | rfl | rfl | rfl <;> refine ⟨True.intro, fun a e => ?_⟩ <;> first | (injection e with e; subst e; omega) | cases e
def oddsL (n0 : Str) : List OL := [.str "", .str "A", .str "abcdefg", .non, .int 5, .bl true, .lst [], .tup [n0], .dct, .str (Txt.upper n0)]
theorem oddsL_bad {names : List Str} {n0 : Str} (al : Alpha names) (h0 : n0 ∈ names) : ∀ o ∈ oddsL n0, o.inB names = false ∧ o.ok := fun o ho => by
  have w0 := al.ok n0 h0
  have out : ∀ s : Str, ¬ IsWord s → decide (s ∈ names) = false := fun s hs => decide_eq_false fun h => hs (al.ok s h)
  simp only [oddsL, List.mem_cons, List.not_mem_nil, or_false] at ho
  rcases ho with rfl | rfl | rfl | rfl | rfl | rfl | rfl | rfl | rfl | rfl
  · exact ⟨out _ no_E, ⟨by decide +kernel, by decide +kernel⟩⟩
  · exact ⟨out _ no_A, ⟨by decide +kernel, by decide +kernel⟩⟩
  · exact ⟨out _ no_G, ⟨by decide +kernel, by decide +kernel⟩⟩
  · exact ⟨rfl, True.intro⟩
  · exact ⟨rfl, (by decide +kernel : (5 : Int).natAbs.log2 < 1920)⟩
  · exact ⟨rfl, True.intro⟩
  · exact ⟨rfl, by decide, fun s h => by cases h⟩
  · exact ⟨rfl, by show 1 ≤ 2; decide, fun s h => by rw [List.mem_singleton.mp h]; exact w0⟩
  · exact ⟨rfl, True.intro⟩
  · exact ⟨out _ (upper_out w0), (txb_upper w0).up (by decide)⟩
section
variable {K : Fg} {vs : List V} {H : Hp} {Q : VK} {E : XK} {CL CJ CM : Addr}
theorem ep_marksM {W : Wd} {σ : SS} {tl tn : TE} {names : List Str} {m : Nat} (hl : EvP pur tl σ W (LetAt K CL names)) (hn : EvR pur K tn σ W (m : Int)) (h1 : 1 ≤ m) (h8 : m ≤ 8) :
    EvP pur (tMake CM (sp_Marks___init__ K CL CM) [] E0 (tCons tl (tCons tn tNil))) σ W (fun v W' => ∃ y, v = .ref y ∧ MarkAt K CL CM W' y names m [] ∧ W.H y = none) := fun W0 g0 Q k => hl W0 g0 _ fun vl W1 g1 hl1 => hn W1 (g0.trans g1) _ fun v2 W2 g2 r2 y dx hy hdx ne => by
  rw [show v2 = _ from r2]
  let Wa := W2.put dx (.own y) (W2.free hdx)
  have ga : Grow W2 Wa := W2.grow_put hdx
  have hy' : Wa.H y = none := (upd_ne ne.symm).trans hy
  let Wb := Wa.put y (.ins CM dx []) (Wa.free hy')
  have gb : Grow Wa Wb := Wa.grow_put hy'
  have gab := ga.trans gb
  have g02 := (g0.trans (g1.trans g2)).pure
  refine ⟨Wb, y, dx, vl, .int m, names, .int m, rfl, rfl, Wa.free hy', upd_same, ((hl1.s g2).g ga).g gb, rfl, .inl ⟨m, rfl, h1, h8, fun W3 m3 r3 => ⟨rfl, ?_⟩⟩⟩
  have M : Md [y] W2 W3 := (Grow.s gab).trans m3
  exact k _ W3 ((g1.trans g2).and (Md.fresh (.refl [] W2) M hy)) ⟨y, rfl, r3, was_none g02 hy⟩
theorem mf_smaller : ¬ ("made_smaller" : Str) = "own_letters" ∧ ¬ ("made_smaller" : Str) = "mark_number" ∧ ¬ ("made_smaller" : Str) = "marked" := by decide +kernel
theorem mf_meet : ¬ ("meet" : Str) = "own_letters" ∧ ¬ ("meet" : Str) = "mark_number" ∧ ¬ ("meet" : Str) = "marked" := by decide +kernel
theorem rd__law_refused_right (cl : LettersC K CL) (cj : JarsC K CJ) (cm : MarksC K CM) (rm : Refd K "NoMany") (rl : Refd K "NoLetter") (nk : NotMk K CL CJ CM) (w1 : tabP K "_law_refused_first" ≠ tabP K "_law_refused_poured") (w2 : tabP K "_law_refused_first" ≠ tabP K "_law_refused_right") (w3 : tabP K "_law_refused_poured" ≠ tabP K "_law_refused_right") (h : sp__law_refused_right K CL CJ CM vs H Q E) : t__law_refused_right K CL CJ CM { nx := fun _ H' => Q .non H', rt := Q } (start n__law_refused_right vs) H := by
  have td : TabD K := ⟨w1, w2, w3⟩
  obtain ⟨W, p, c, y, va, names, m, ks, rfl, rfl, s, r, m1, m8, kl, ra, al, t, pt, ct, k⟩ := h
  have lo := al.lo
  obtain ⟨n0, hn0⟩ : ∃ n0, names[0]? = some n0 := ⟨names[0]'(by omega), List.getElem?_eq_getElem (by omega)⟩
  have mem0 : n0 ∈ names := List.mem_of_getElem? hn0
  have tS : ∀ a ∈ tabsL K, a ∉ (drw p c).S := fun a ha h => by
    simp only [drw, List.mem_cons, List.not_mem_nil, or_false] at h
    rcases h with rfl | rfl
    · exact pt ha
    · exact ct ha
  let S0 : Option V → Option V → Option V → Option V → SS := fun v4 v5 v6 v7 => [some (.ref p), some (.ref y), some va, some (.int m), v4, v5, v6, v7]
  show tSeq _ _ _ (S0 none none none none) W.H
  refine q_asgP (ε := drw p c) (W := W) (σ := S0 none none none none) (ep_ixD (K := K) (xs := oddsN m) (ev_lst (ea_cons (ev_oI ev_int) (ea_cons (ev_oI (ev_op (K := K) (ev_var (i := 3) (x := (m : Int)) rfl rfl) ev_int ro_I0)) (ea_cons (ev_oI ev_int) (ea_cons (ev_oB ev_bl) (ea_cons (ev_oN ev_non) (ea_cons (ev_oS ev_str) (ea_cons (ev_oL (ev_lst (ea_cons ev_int ea_nil) (by show 1 ≤ 100000; decide))) (ea_cons (ev_oI (ev_un ev_int ru_neg)) ea_nil)))))))) (by show 8 ≤ 100000; decide)) (ev_draw (i := 0) (n := 8) rfl ev_int (by decide) (by decide))) s fun v4 W1 g1 ⟨o, ho, r4⟩ => ?_
  obtain ⟨ok4, bad4⟩ := odds_bad m8 o ho
  have s1 : St W1 p c := g1.i
  have r1 := r.g g1.md (r.out (st_noins s))
  have t1 := t.g g1.md tS
  have ra1 := rep_s g1 ra
  have e0 : ∀ {W : Wd} {ε : Ef} {v4 v5 v6 v7 : Option V}, rep K W.B va names → EvR ε K (tOp (rIxL K) (tVar 2) (tC (.int 0))) (S0 v4 v5 v6 v7) W n0 := fun r => ev_op (ev_var (i := 2) rfl r) ev_int (ro_ixL (atI_nat (j := 0) hn0))
  show tSeq _ _ _ (S0 (some v4) none none none) W1.H
  refine q_asgP (ε := drw p c) (W := W1) (σ := S0 (some v4) none none none) (ep_ixD (K := K) (xs := oddsL n0) (ev_lst (ea_cons (ev_lS ev_str) (ea_cons (ev_lS ev_str) (ea_cons (ev_lS ev_str) (ea_cons (ev_lN ev_non) (ea_cons (ev_lI ev_int) (ea_cons (ev_lB ev_bl) (ea_cons (ev_lL (ev_lst ea_nil (by show 0 ≤ 100000; decide))) (ea_cons (ev_lT (ev_tupN (ea_cons (e0 ra1) ea_nil) (by show 1 ≤ 100000; decide))) (ea_cons (ev_lD ed_new) (ea_cons (ev_lS (ev_upper (e0 ra1) (by have := (al.ok n0 mem0).hi; omega))) ea_nil)))))))))) (by show 10 ≤ 100000; decide)) (ev_draw (i := 0) (n := 10) rfl ev_int (by decide) (by decide))) s1 fun v5 W2 g2 ⟨ol, hol, r5⟩ => ?_
  obtain ⟨bad5, ok5⟩ := oddsL_bad al mem0 ol hol
  have s2 : St W2 p c := g2.i
  have r2 := r1.g g2.md (r1.out (st_noins s1))
  have t2 := t1.g g2.md tS
  have ra2 := rep_s g2 ra1
  have r42 := rep_s g2 r4
  show tSeq _ _ _ (S0 (some v4) (some v5) none none) W2.H
  have oMono : ∀ v W W', Stp pur W W' → OddM K CL CM names v W → OddM K CL CM names v W' := fun v W W' g h => h.g g.md fun a ha => by cases ha
  -- the mirror
  refine q_asgP (ε := pur) (W := W2) (σ := S0 (some v4) (some v5) none none) (P := OddM K CL CM names) (ep_ifPM (b := decide ((names.length : Int) > 1)) (et_test (ev_op (K := K) (ev_cb1 (ev_var (i := 2) rfl ra2) rc_len) ev_int ro_B0)) (fun hb => fun W3 g3 Q k => ep_marksM (K := K) (CL := CL) (CM := CM) (names := names.reverse) (m := 2) (ep_letters (K := K) (C := CL) (ε := pur) (names := names.reverse) (fun _ _ _ _ h => h) (ev_revL (ev_var (i := 2) rfl ra2)) (alpha_revM al)) ev_int (by decide) (by decide) W3 g3 _ fun v W4 g4 ⟨z, e, rz, _⟩ => k v W4 g4 (.inr (.inr (.inr (.inr ⟨z, _, _, _, e, rz, rev_neM al.nd (by have := of_decide_eq_true hb; omega)⟩))))) (fun _ W3 g3 Q k => k .non W3 g3.rf (.inl rfl))) trivial fun v6 W3 g3 od3 => ?_
  have s3 := s2.g g3.pure
  have r3 := r2.gr g3.pure
  have t3 := t2.gr g3.pure
  have ra3 := rep_s g3 ra2
  have r43 := rep_s g3 r42
  have r53 := rep_s g3 r5
  show tSeq _ _ _ (S0 (some v4) (some v5) (some v6) none) W3.H
  -- another thing
  refine q_asgHM (ixH (lstHM ?_))
  have lst : EvAsP pur (tCons (tVar 6) (tCons (tC .non) (tCons (tMake CJ (sp_Jars___init__ K CL CJ) [] E0 (tCons (tMake CL (sp_Letters___init__ K CL) [] E0 (tCons (tVar 2) tNil)) (tCons (tC (.int 2)) tNil))) (tCons (tTup tNil) (tCons (tC (.int 5)) (tCons (tMake CL (sp_Letters___init__ K CL) [] E0 (tCons (tVar 2) tNil)) tNil)))))) (S0 (some v4) (some v5) (some v6) none) W3 6 (OddM K CL CM names) :=
    eap_cons oMono (fun W4 g4 Q k => ⟨_, rfl, k v6 W4 g4.rf (oMono v6 W3 W4 g4 od3)⟩) (eap_cons oMono (fun W4 g4 Q k => k .non W4 g4.rf (.inl rfl)) (eap_cons oMono (fun W4 g4 Q k => ep_jars (K := K) (CL := CL) (CJ := CJ) (names := names) (n := 2) (ep_letters (K := K) (C := CL) (ε := pur) (names := names) (fun _ _ _ _ h => h) (ev_var (i := 2) rfl ra3) al) ev_int (by decide) (by decide) W4 g4 _ fun v W5 g5 hj => by
        obtain ⟨j, i, d, e, rj, _⟩ := hj
        obtain ⟨dj, lj, hj, _⟩ := id rj.ex
        exact k v W5 g5 (.inr (.inr (.inr (.inl ⟨j, dj, CJ, _, e, hj, cj.i, nk.j⟩)))))
      (eap_cons oMono (fun W4 g4 Q k => (ev_tupN (K := K) (xs := ([] : List Str)) ea_nil (by decide) : EvR pur K _ _ W3 _) W4 g4 _ fun v W5 g5 rv => k v W5 g5 (.inr (.inr (.inl ⟨[], rv⟩)))) (eap_cons oMono (fun W4 g4 Q k => k (.int 5) W4 g4.rf (.inr (.inl rfl))) (eap_cons oMono (fun W4 g4 Q k => ep_letters (K := K) (C := CL) (ε := pur) (names := names) (fun _ _ _ _ h => h) (ev_var (i := 2) rfl ra3) al W4 g4 _ fun v W5 g5 hl => by
        obtain ⟨l', dl, rr, e, z1, z2, z3⟩ := id hl
        exact k v W5 g5 (.inr (.inr (.inr (.inl ⟨l', dl, CL, _, e, W5.sub.ins z1, cl.i, nk.c⟩))))) eap_nil)))))
  refine lst W3 (.start trivial) _ fun us W4 g4 ul up => ⟨Evl.sz_of (by rw [ul]; decide), fun lp hlp => ?_⟩
  let W5 := W4.add lp (.lst us)
  have g5 : Grow W4 W5 := W4.grow_add hlp
  have G5 := g4.pure.trans g5
  have s5 := s3.g G5
  refine ev_draw (K := K) (σ := S0 (some v4) (some v5) (some v6) none) (i := 0) (p := p) (c := c) (n := 6) rfl ev_int (by decide) (by decide) W5 (.start s5) _ fun vr W6 g6 ⟨ri, er, rr0, rr1⟩ => ?_
  subst er
  obtain ⟨i, rfl⟩ : ∃ i : Nat, ri = (i : Int) := ⟨ri.toNat, by omega⟩
  have hi : i < us.length := by omega
  have hl6 : W6.B lp = some (.lst us) := g6.md.b lp _ upd_same
  refine ⟨lp, us, i, us[i], rfl, rfl, SqL.of (W6.sub.el hl6), atI_nat (List.getElem?_eq_getElem hi), ?_⟩
  generalize hu : us[i] = u
  have od4 : OddM K CL CM names u W4 := by rw [← hu]; exact up _ (List.getElem_mem hi)
  have od6 : OddM K CL CM names u W6 := (od4.g g5 fun a ha => by cases ha).g g6.md (st_noins s5)
  have s6 : St W6 p c := g6.i
  have r6 := (r3.gr G5).g g6.md ((r3.gr G5).out (st_noins s5))
  have t6 := (t3.gr G5).g g6.md tS
  have ra6 := rep_s g6 (rep_g G5 ra3)
  have r46 := rep_s g6 (rep_g G5 r43)
  have r56 := rep_s g6 (rep_g G5 r53)
  have inD : ∀ {W W' : Wd}, Md (drw p c).S W W' → Md (p :: c :: tabsL K) W W' := fun m => m.mono (by intro x hx; simp only [drw, List.mem_cons, List.not_mem_nil, or_false] at hx; simp only [List.mem_cons]; rcases hx with rfl | rfl; exact .inl rfl; exact .inr (.inl rfl))
  have M6 : Md (p :: c :: tabsL K) W W6 := (((inD g1.md).trans (inD g2.md)).trans (Grow.s (g3.pure.trans G5))).trans (inD g6.md)
  have inT : ∀ {a : Addr} {W W' : Wd}, a ∈ tabsL K → Md [a] W W' → Md (p :: c :: tabsL K) W W' := fun ha m => m.mono (by intro x hx; rw [List.mem_singleton.mp hx]; exact List.mem_cons_of_mem _ (List.mem_cons_of_mem _ ha))
  have aF : tabP K "_law_refused_first" ∈ tabsL K := by simp
  have aP : tabP K "_law_refused_poured" ∈ tabsL K := by simp
  have aR : tabP K "_law_refused_right" ∈ tabsL K := by simp
  have stO : ∀ {a : Addr} {W W' : Wd}, a ∈ tabsL K → St W p c → Md [a] W W' → St W' p c := fun {a W W'} ha s m => s.off m (by intro h; exact pt (by rw [List.mem_singleton.mp h]; exact ha)) (by intro h; exact ct (by rw [List.mem_singleton.mp h]; exact ha))
  show tSeq _ _ _ (S0 (some v4) (some v5) (some v6) (some u)) W6.H
  refine orIfH ?_
  refine (et_test (ev_op (K := K) (ev_refusedF (P := tabP K "_law_refused_right") (q := qLam "_law_refused_right") (σ := S0 (some v4) (some v5) (some v6) (some u)) (W := W6) (C := cErr K "NoMany") (w := "many") rm.l (wordF rm hj2 hw2) fun W7 md E Q kk => by
      have r7 := r6.g md (r6.out (tab_noins t6.r))
      obtain ⟨dy, l, w, hy, _⟩ := id r7.ex
      exact ⟨_, rfl, y, dy, _, rfl, hy, mf_no mf_smaller.1 mf_smaller.2.1 mf_smaller.2.2, _, rfl, CL, W7, y, names, m, ks, v4, o, rfl, rfl, r7, Py.mono (exExt md.b) r46, .inr ⟨bad4, fun W8 g8 => kk W8 none g8 (FldAt.non W8)⟩⟩) ev_str ro_neS)) W6 (.start t6.r) _ fun W7 g7 => ?_
  rw [show (!decide (("many" : Str) = "many")) = false from by rw [decide_eq_true rfl]; rfl, if_neg (by decide)]
  have t7 := t6.setR td g7.md g7.i
  have s7 := stO aR s6 g7.md
  have r7 := r6.g g7.md (r6.out (tab_noins t6.r))
  have od7 := od6.g g7.md (tab_noins t6.r)
  have ra7 := rep_s g7 ra6
  have r47 := rep_s g7 r46
  have r57 := rep_s g7 r56
  have M7 := M6.trans (inT aR g7.md)
  refine (show tTest (tOp rNe (tCall (sp__law_refused_first K CL CM) [] E0 (tCons (tVar 2) (tCons (tVar 4) tNil))) (tC (.str "many"))) (S0 (some v4) (some v5) (some v6) (some u)) W7.H _ from ⟨_, rfl, _, rfl, W7, va, v4, names, o, rfl, rfl, ra7, al, r47, ok4, t7.f, fun W8 md8 t8 => ?_⟩)
  have T8 := t7.setF td md8 t8
  have s8 := stO aF s7 md8
  have r8 := r7.g md8 (r7.out (tab_noins t7.f))
  have od8 := od7.g md8 (tab_noins t7.f)
  have r58 : rep K W8.B v5 ol := Py.mono (exExt md8.b) r57
  have M8 := M7.trans (inT aF md8)
  dsimp only [tC]
  refine (ro_neS (K := K) (i := ("many" : Str)) (j := "many") _ _ W8 rfl rfl _ fun vb W9 g9 eb => ?_)
  rw [show vb = V.bl (!decide (("many" : Str) = "many")) from eb, show (!decide (("many" : Str) = "many")) = false from by rw [decide_eq_true rfl]; rfl]
  refine ⟨false, rfl, ?_⟩
  rw [if_neg (by decide)]
  have T9 := T8.gr g9
  have s9 := s8.g g9
  have r9 := r8.gr g9
  have od9 : OddM K CL CM names u W9 := od8.g g9 fun a ha => by cases ha
  have r59 := rep_g g9 r58
  have M9 := M8.trans (Grow.s g9)
  unfold tNext
  dsimp only
  refine cat2H ?_
  obtain ⟨b5, lk5⟩ := letk_ol r59 ok5
  refine (ev_refusedF (P := tabP K "_law_refused_right") (q := qLam "_law_refused_right") (σ := S0 (some v4) (some v5) (some v6) (some u)) (W := W9) (C := cErr K "NoLetter") (w := "letter") rl.l (wordF rl hj0 hw0) fun W10 md E Q kk => by
      have r10 := r9.g md (r9.out (tab_noins T9.r))
      obtain ⟨dy, l, w, hy, _⟩ := id r10.ex
      have r5A : rep K W10.B v5 ol := Py.mono (exExt md.b) r59
      obtain ⟨b5', lk5'⟩ := letk_ol r5A ok5
      exact ⟨_, rfl, y, dy, _, rfl, hy, mf_no mf_meet.1 mf_meet.2.1 mf_meet.2.2, _, rfl, W10, y, v5, names, m, ks, b5', rfl, rfl, r10, lk5', kl, .inr ⟨by rw [hasB_ol r5A]; exact bad5, fun W11 dd g11 hx => kk W11 (some dd) g11 fun d e => by cases e; exact ⟨_, hx⟩⟩⟩) W9 (.start T9.r) _ fun vx W10 g10 ex => ?_
  rw [show vx = V.str "letter" from ex]
  have T10 := T9.setR td g10.md g10.i
  have s10 := stO aR s9 g10.md
  have r10 := r9.g g10.md (r9.out (tab_noins T9.r))
  have od10 := od9.g g10.md (tab_noins T9.r)
  have M10 := M9.trans (inT aR g10.md)
  refine ⟨_, rfl, _, rfl, W10, y, names, m, ks, u, rfl, rfl, r10, od10, T10.p, fun W11 md11 t11 => ?_⟩
  have T11 := T10.setP td md11 t11
  have s11 := stO aP s10 md11
  have M11 := M10.trans (inT aP md11)
  refine ⟨"letter", "keeper", rfl, rfl, Evl.sz_of (by decide +kernel), ?_⟩
  dsimp only [tC]
  refine (ro_eqS (K := K) (i := ("letter" : Str) ++ "keeper") (j := "letterkeeper") _ _ W11 rfl rfl _ fun vb W12 g12 eb => ?_)
  rw [show vb = V.bl _ from eb, show decide ((("letter" : Str) ++ "keeper") = "letterkeeper") = true from by decide +kernel]
  exact k W12 (M11.trans (Grow.s g12)) (s11.g g12) (T11.gr g12)
end
end B
set_option maxHeartbeats 16000000
/-! k13: the law -/
namespace B
open PySem L2
open PySem.W (Tup T3 T4 Datum DatumOrd)
open Evl (Ex)
structure NotMs (K : Fg) (CJ CM : Addr) : Prop where
  fj : PySem.W.subIn K (.ref CJ) (.ref CM) = some false
  fl : PySem.W.subIn K (.type "list") (.ref CM) = some false
def sp_law (K : Fg) : Sp := fun vs H Q _ => ∃ (a : Addr) (ns : List Int), vs = [.ref a] ∧ SqL K H a (ns.map V.int) ∧ ns.length ≤ 63 ∧ (∀ x, x ∈ (["_law_refused_first", "_law_refused_poured", "_law_refused_right"] : List Str) → H (tabP K x) = some (.tbl #[]) ∧ a ≠ tabP K x) ∧ ∀ H', Q (.bl true) H'
theorem len_law {K : Fg} {vs : List V} {H : Hp} {Q : VK} {E : XK} (h : sp_law K vs H Q E) : vs.length = ["_law_script"].length := by
  obtain ⟨a, ns, rfl, _⟩ := h
  rfl
theorem law_in {K : Fg} {H : Hp} (a : Addr) (ns : List Int) (hl : ns.length ≤ 63) (hS : SqL K H a (ns.map V.int)) (hT : ∀ x, x ∈ (["_law_refused_first", "_law_refused_poured", "_law_refused_right"] : List Str) → H (tabP K x) = some (.tbl #[]) ∧ a ≠ tabP K x) : sp_law K [.ref a] H (fun v _ => v = .bl true) (fun _ _ _ => False) := ⟨a, ns, rfl, hS, hl, hT, fun _ => rfl⟩
/-- law: the slots 0 _law_script, 1 _law_state, 2 _law_alphabet_here, 3 _law_wides, 4 _law_k, 5 _law_marks_of, 6 _law_plains, 7 _law_wide, 8 _law_turn_here, 9 _law_twin, 10 _law_mark, 11 _law_plain, 12 _law_bare, 13 _law_fresh, 14 _law_word_here, 15 _law_longer -/
abbrev n_law : List Str := ["_law_script", "_law_state", "_law_alphabet_here", "_law_wides", "_law_k", "_law_marks_of", "_law_plains", "_law_wide", "_law_turn_here", "_law_twin", "_law_mark", "_law_plain", "_law_bare", "_law_fresh", "_law_word_here", "_law_longer"]
def t_law (K : Fg) (c_Letters : Addr) (c_Jars : Addr) (c_Marks : Addr) : TS := (tSeq (tAsg (tOp rCat (tCall (sp__law_begun K) [] E0 (tCons (tVar 0) tNil)) (tLst (tCons (tC (.int 0)) tNil))) (gName 1))
  (tSeq (tAsg (tCall (sp__law_alphabet K) [] E0 (tCons (tVar 1) (tCons (tC (.int 1)) (tCons (tC (.int 12)) tNil)))) (gName 2))
  (tSeq (tAsg (tLc (iRng1 (tCons (tOp oAdd (tC (.int 2)) (tCall (sp__law_draw K) [] E0 (tCons (tVar 1) (tCons (tC (.int 2)) tNil)))) tNil)) (gName 4) tYes (tOp oAdd (tC (.int 1)) (tCall (sp__law_draw K) [] E0 (tCons (tVar 1) (tCons (tC (.int 8)) tNil)))) [4]) (gName 3))
  (tSeq (tPar 5 6 (tCons (tLc (iList K (tVar 3)) (gName 7) tYes (tMake c_Marks (sp_Marks___init__ K c_Letters c_Marks) [] E0 (tCons (tMake c_Letters (sp_Letters___init__ K c_Letters) [] E0 (tCons (tVar 2) tNil)) (tCons (tVar 7) tNil))) [7]) (tCons (tLc (iList K (tVar 3)) (gName 7) tYes (tLst (tCons (tVar 7) (tCons (tTup tNil) tNil))) [7]) tNil)))
  (tSeq (tFor (iRng1 (tCons (tCB rMax2 (tCons (tC (.int 10)) (tCons (tCB rMin2 (tCons (tCB (rLen K) (tCons (tVar 0) tNil)) (tCons (tC (.int 63)) tNil))) tNil))) tNil)) (gName 8)
  (tSeq (tAsg (tMeth c_Marks "twin" (sp_Marks_twin K c_Letters c_Marks) [] E0 (tOp (rIxL K) (tVar 5) (tC (.int 0))) tNil) (gName 9))
  (tSeq (tIfS (tOr (tTest (tOp (rInsNe c_Marks (sp_Marks___eq__ K c_Letters c_Marks) E0) (tVar 9) (tOp (rIxL K) (tVar 5) (tC (.int 0))))) (tTest (tOp oNotN (tCall (sp__law_turn K c_Letters c_Marks) [] E0 (tCons (tVar 1) (tCons (tVar 5) (tCons (tVar 6) (tCons (tVar 2) tNil))))) (tC .non)))) (tRet (tC (.bl false))) tNext)
  (tSeq (tIfS (tTest (tOp rNe (tOp (rInsEq c_Marks (sp_Marks___eq__ K c_Letters c_Marks) E0) (tVar 9) (tOp (rIxL K) (tVar 5) (tC (.int 0)))) (tOp (rEqT K false) (tTup (tCons (tMeth c_Marks "many" (sp_Marks_many K c_Marks) [] E0 (tVar 9) tNil) (tCons (tMeth c_Marks "kept" (sp_Marks_kept K c_Marks) [] E0 (tVar 9) tNil) tNil))) (tTup (tCons (tMeth c_Marks "many" (sp_Marks_many K c_Marks) [] E0 (tOp (rIxL K) (tVar 5) (tC (.int 0))) tNil) (tCons (tMeth c_Marks "kept" (sp_Marks_kept K c_Marks) [] E0 (tOp (rIxL K) (tVar 5) (tC (.int 0))) tNil) tNil)))))) (tRet (tC (.bl false))) tNext)
  (tSeq (tIfS (tNot (tB (tCall (sp__law_refused_right K c_Letters c_Jars c_Marks) [] E0 (tCons (tVar 1) (tCons (tOp (rIxL K) (tVar 5) (tC (.int 0))) (tCons (tVar 2) (tCons (tOp (rIxL K) (tOp (rIxL K) (tVar 6) (tC (.int 0))) (tC (.int 0))) tNil))))))) (tRet (tC (.bl false))) tNext)
  (tSeq (tDrop (tMeth c_Marks "meet" (sp_Marks_meet K c_Letters c_Marks) [] E0 (tVar 9) (tCons (tOp (rIxL K) (tVar 2) (tUn oNeg (tC (.int 1)))) tNil)))
  (tIfS (tNot (tB (tCB (rAll K) (tCons (tLc (iZip K (tCons (tVar 5) (tCons (tVar 6) tNil))) (gPair K 10 11) tYes (tCall (sp__law_stands K c_Letters c_Marks) [] E0 (tCons (tVar 10) (tCons (tVar 2) (tCons (tVar 11) tNil)))) [10, 11]) tNil)))) (tRet (tC (.bl false))) tNext)))))))
  (tSeq (tPar 12 7 (tCons (tMakeK c_Marks 0 2 (sp_Marks___init__ K c_Letters c_Marks) (fun vs zs => vs ++ perm [0, 1] zs) E0 tNil (tCons (tMake c_Letters (sp_Letters___init__ K c_Letters) [] E0 (tCons (tVar 2) tNil)) (tCons (tOp (rIxL K) (tVar 3) (tC (.int 0))) tNil))) (tCons (tOp (rIxL K) (tVar 3) (tC (.int 0))) tNil)))
  (tSeq (tIfS (tOr (tTest (tOp rNe (tOp (rInsEq c_Marks (sp_Marks___eq__ K c_Letters c_Marks) E0) (tVar 12) (tMake c_Marks (sp_Marks___init__ K c_Letters c_Marks) [] E0 (tCons (tMake c_Letters (sp_Letters___init__ K c_Letters) [] E0 (tCons (tRevL K (tVar 2)) tNil)) (tCons (tVar 7) tNil)))) (tOp rEq (tCB (rLen K) (tCons (tVar 2) tNil)) (tC (.int 1))))) (tTest (tOp (rInsNe c_Marks (sp_Marks___eq__ K c_Letters c_Marks) E0) (tVar 12) (tMake c_Marks (sp_Marks___init__ K c_Letters c_Marks) [] E0 (tCons (tMake c_Letters (sp_Letters___init__ K c_Letters) [] E0 (tCons (tVar 2) tNil)) (tCons (tVar 7) tNil)))))) (tRet (tC (.bl false))) tNext)
  (tSeq (tAsg (tOp (rIxL K) (tLc (iList K (tSplit K (tC (.str "qq qw qe qr qt qy qu qi qo qp wq wx wz")) (tC (.str " ")))) (gName 14) (tTest (tOp (rInTL K true) (tVar 14) (tVar 2))) (tVar 14) [14]) (tC (.int 0))) (gName 13))
  (tSeq (tIfS (tTest (tOp oLt (tCB (rLen K) (tCons (tVar 2) tNil)) (tC (.int 12)))) (tSeq (tAsg (tMake c_Marks (sp_Marks___init__ K c_Letters c_Marks) [] E0 (tCons (tMake c_Letters (sp_Letters___init__ K c_Letters) [] E0 (tCons (tOp rCat (tVar 2) (tLst (tCons (tVar 13) tNil))) tNil)) (tCons (tVar 7) tNil))) (gName 15))
  (tSeq (tDrop (tMethKw c_Marks "meet" (sp_Marks_meet K c_Letters c_Marks) [0] 1 E0 (tVar 15) (tCons (tOp (rIxL K) (tVar 2) (tC (.int 0))) tNil)))
  (tSeq (tDrop (tMeth c_Marks "meet" (sp_Marks_meet K c_Letters c_Marks) [] E0 (tVar 12) (tCons (tOp (rIxL K) (tVar 2) (tC (.int 0))) tNil)))
  (tIfS (tOr (tTest (tOp (rInsEq c_Marks (sp_Marks___eq__ K c_Letters c_Marks) E0) (tVar 15) (tVar 12))) (tOr (tTest (tOp (rInsEq c_Marks (sp_Marks___eq__ K c_Letters c_Marks) E0) (tVar 12) (tVar 15))) (tTest (tOp (rEqT K true) (tMeth c_Marks "kept" (sp_Marks_kept K c_Marks) [] E0 (tVar 15) tNil) (tMeth c_Marks "kept" (sp_Marks_kept K c_Marks) [] E0 (tVar 12) tNil))))) (tRet (tC (.bl false))) tNext)))) tNext)
  (tRet (tAndV (tOp (rInsNeA K c_Marks (sp_Marks___eq__ K c_Letters c_Marks) E0) (tOp (rIxL K) (tVar 5) (tC (.int 0))) (tMake c_Jars (sp_Jars___init__ K c_Letters c_Jars) [] E0 (tCons (tMake c_Letters (sp_Letters___init__ K c_Letters) [] E0 (tCons (tVar 2) tNil)) (tCons (tOp (rIxL K) (tOp (rIxL K) (tVar 6) (tC (.int 0))) (tC (.int 0))) tNil)))) (tOp (rInsNeA K c_Marks (sp_Marks___eq__ K c_Letters c_Marks) E0) (tOp (rIxL K) (tVar 5) (tC (.int 0))) (tVar 2)))))))))))))
def q13 : List Str := ["qq", "qw", "qe", "qr", "qt", "qy", "qu", "qi", "qo", "qp", "wq", "wx", "wz"]
theorem q13_eq : Txt.split "qq qw qe qr qt qy qu qi qo qp wq wx wz" " " = q13 := by decide +kernel
theorem q13_one {names : List Str} (hl : names.length ≤ 12) : ∃ f r, q13.filter (fun w => !decide (w ∈ names)) = f :: r ∧ IsWord f ∧ f ∉ names := by
  have nd : q13.Nodup := by decide +kernel
  have ok : ∀ w ∈ q13, 1 ≤ w.length ∧ w.length ≤ 6 ∧ ∀ c ∈ w.cps.toList, 97 ≤ c ∧ c ≤ 122 := by decide +kernel
  cases e : q13.filter (fun w => !decide (w ∈ names)) with
  | nil =>
    have : q13.length ≤ names.length := nodup_le nd fun x hx => by
      have := List.filter_eq_nil_iff.mp e x hx
      simpa using this
    have e8 : q13.length = 13 := rfl
    omega
  | cons f r =>
    have h : f ∈ q13.filter (fun w => !decide (w ∈ names)) := by rw [e]; exact List.mem_cons_self
    have h2 := List.mem_filter.mp h
    have h3 := ok f h2.1
    exact ⟨f, r, rfl, ⟨h3.1, h3.2.1, h3.2.2⟩, by simpa using h2.2⟩
theorem at_zeroM {α : Type} (f : α) (r : List α) : atI (f :: r) 0 = some f := by
  obtain ⟨x, _, h⟩ := atI_first (xs := f :: r) (by simp)
  rw [h]
  simp [atI, ixN] at h
  rw [h]
theorem alpha_moreM {names : List Str} {f : Str} (al : Alpha names) (h : names.length ≤ 11) (w : IsWord f) (nf : f ∉ names) : Alpha (names ++ [f]) := ⟨by rw [List.length_append]; have := al.lo; omega, by rw [List.length_append, List.length_singleton]; omega, by
  rw [List.nodup_append]
  exact ⟨al.nd, by simp, fun a ha b hb e => nf (by rw [← List.mem_singleton.mp hb, ← e]; exact ha)⟩, fun n hn => by
  rcases List.mem_append.mp hn with h | h
  · exact al.ok n h
  · rw [List.mem_singleton.mp h]; exact w⟩
/-- the first letter alone -/
theorem keep_first {n0 : Str} {L : List Str} {m : Nat} (nd : (n0 :: L).Nodup) (h1 : 1 ≤ m) : keepM (n0 :: L) m ([] ++ [n0]) = [n0] := by
  unfold keepM kp
  have e : (n0 :: L).filter (fun x => decide (x ∈ ([] ++ [n0] : List Str))) = [n0] := by
    rw [List.filter_cons, if_pos (by simp)]
    congr 1
    refine List.filter_eq_nil_iff.mpr fun x hx => ?_
    have : x ≠ n0 := fun e => (List.nodup_cons.mp nd).1 (e ▸ hx)
    simp [this]
  rw [e]
  obtain ⟨k, rfl⟩ : ∃ k, m = k + 1 := ⟨m - 1, by omega⟩
  simp
def mkT (K : Fg) (CL CM : Addr) (names : List Str) (y : Addr) (m : Nat) : Thing := ⟨[y], fun W => MarkAt K CL CM W y names m [], fun h g ha => h.g g (ha _ (by simp)), fun h ha => by
  rw [List.mem_singleton.mp ha]; exact h.nt.ne⟩
theorem parR2M {i j : Nat} {ta tb : TE} {tz : TS} {D : Ends} {σ : SS} {H : Hp} (h : ta σ H fun v H1 => tb σ H1 fun u H2 => ∃ x y, [v, u] = [x, y] ∧ tz D ((σ.set i (some x)).set j (some y)) H2) : tSeq (tPar i j (tCons ta (tCons tb tNil))) tz D σ H := h
theorem opHM {r : R2} {ta tb : TE} {σ : SS} {H : Hp} {Q : VK} (h : ta σ H fun x H1 => tb σ H1 fun y H2 => r x y H2 Q) : tOp r ta tb σ H Q := h
section
variable {K : Fg} {CL CJ CM : Addr} {W : Wd} {σ : SS} {y z : Addr} {names n2 : List Str} {m n : Nat} {ks ls : List Str} {te ta tb : TE}
/-- two zipped, the first stays, the second may change -/
theorem ei_zipRM {α β : Type} [Py α] [Py β] {i j : Nat} {v : V} {e : Addr} {xs : List α} {ys : List β} (h1 : σ[i]? = some (some v)) (r1 : rep K W.B v xs) (h2 : σ[j]? = some (some (.ref e))) (m2 : LMut K W e ys) : EvI pur K (iZip K (tCons (tVar i) (tCons (tVar j) tNil))) σ W (xs.zip ys) := fun W1 g1 R k => by
  obtain ⟨d, vs, rfl, e1, r1⟩ := rep_s g1 r1
  obtain ⟨us, e2, r2⟩ := (m2.gr g1.pure).ex
  have e1h : ∀ W', Grow W1 W' → SqL K W'.H d vs := fun W' o => SqL.of (W'.sub.el (o.b _ _ e1))
  refine ⟨_, h1, _, h2, d, e, vs, us, rfl, e1h W1 (.refl _ _), SqL.of e2, k (Itz K d e) (fun W' => Grow W1 W') W1 g1.rf (.refl _ _) (fun _ _ a b => a.trans b.pure) ⟨fun i W' o hi => ?_, fun i W' v H'' o hi ⟨T, x, y, f1, hT, f2, f3, f4⟩ => ?_, fun i W' o hi => ?_⟩⟩
  · have hi' : i < xs.length ∧ i < ys.length := by simp at hi; omega
    obtain ⟨x, hx⟩ : ∃ x, xs[i]? = some x := ⟨xs[i], by simp [hi'.1]⟩
    obtain ⟨y, hy⟩ : ∃ x, ys[i]? = some x := ⟨ys[i], by simp [hi'.2]⟩
    obtain ⟨v, h1, _⟩ := Reps.get' r1 hx
    obtain ⟨u, h2, _⟩ := Reps.get' r2 hy
    exact ⟨vs, us, v, u, e1h W' o, SqL.of (o.h _ _ e2), h1, h2⟩
  · obtain ⟨p, h1, h2⟩ := Reps.get r1 (f3 vs (e1h W' o))
    obtain ⟨q, h3, h4⟩ := Reps.get r2 (f4 us (SqL.of (o.h _ _ e2)))
    refine ⟨(p, q), W'.add T _, f2.symm, W'.grow_add hT, ?_, T, x, y, f1, upd_same, rep_g (W'.grow_add hT) (rex o.b h2), rep_g (W'.grow_add hT) (rex o.b h4)⟩
    rw [List.getElem?_zip_eq_some]
    exact ⟨h1, h3⟩
  · refine ⟨vs, us, e1h W' o, SqL.of (o.h _ _ e2), ?_⟩
    rw [Reps.len r1, Reps.len r2]
    simp at hi
    omega
theorem mf_twin : ¬ ("twin" : Str) = "own_letters" ∧ ¬ ("twin" : Str) = "mark_number" ∧ ¬ ("twin" : Str) = "marked" := by decide +kernel
/-- new marks -/
def NewMk (K : Fg) (CL CM : Addr) (W : Wd) (names : List Str) (m : Nat) (ks : List Str) (v : V) (W' : Wd) : Prop := ∃ z, v = .ref z ∧ MarkAt K CL CM W' z names m ks ∧ W.H z = none
theorem ep_twinM (hd : EvR pur K te σ W (Raw.mk (.ref y))) (r : MarkAt K CL CM W y names m ks) (h1 : 1 ≤ m) (h8 : m ≤ 8) : EvP pur (tMeth CM "twin" (sp_Marks_twin K CL CM) [] E0 te tNil) σ W (NewMk K CL CM W names m ks) := fun W1 g1 Q k => hd W1 g1 _ fun v W2 g2 e => by
  have G := (g1.trans g2).pure
  have r2 := r.gr G
  obtain ⟨dx, l, w, hx, _⟩ := id r2.ex
  rw [show v = V.ref y from e]
  exact ⟨y, dx, _, rfl, hx, mf_no mf_twin.1 mf_twin.2.1 mf_twin.2.2, W2, y, names, m, ks, rfl, rfl, r2, h1, h8, fun z W3 g3 r3 hz => k _ W3 (g2.trans (.of g3)) ⟨z, rfl, r3, was_none G hz⟩⟩
theorem ep_marksKM {tl tn : TE} (hl : EvP pur tl σ W (LetAt K CL names)) (hn : EvR pur K tn σ W (m : Int)) (h1 : 1 ≤ m) (h8 : m ≤ 8) :
    EvP pur (tMakeK CM 0 2 (sp_Marks___init__ K CL CM) (fun vs zs => vs ++ perm [0, 1] zs) E0 tNil (tCons tl (tCons tn tNil))) σ W (NewMk K CL CM W names m []) := fun W0 g0 Q k => hl W0 g0 _ fun vl W1 g1 hl1 => hn W1 (g0.trans g1) _ fun v2 W2 g2 r2 => ⟨rfl, rfl, fun y dx hy hdx ne => by
  rw [show v2 = _ from r2]
  let Wa := W2.put dx (.own y) (W2.free hdx)
  have ga : Grow W2 Wa := W2.grow_put hdx
  have hy' : Wa.H y = none := (upd_ne ne.symm).trans hy
  let Wb := Wa.put y (.ins CM dx []) (Wa.free hy')
  have gb : Grow Wa Wb := Wa.grow_put hy'
  have gab := ga.trans gb
  have g02 := (g0.trans (g1.trans g2)).pure
  refine ⟨Wb, y, dx, vl, .int m, names, .int m, rfl, rfl, Wa.free hy', upd_same, ((hl1.s g2).g ga).g gb, rfl, .inl ⟨m, rfl, h1, h8, fun W3 m3 r3 => ⟨rfl, ?_⟩⟩⟩
  have M : Md [y] W2 W3 := (Grow.s gab).trans m3
  exact k _ W3 ((g1.trans g2).and (Md.fresh (.refl [] W2) M hy)) ⟨y, rfl, r3, was_none g02 hy⟩⟩
abbrev eqM (names n2 : List Str) (m n : Nat) (ks ls : List Str) : Bool := decide (names = n2) && decide (((m : Int), Tup.mk ks) = ((n : Int), Tup.mk ls))
theorem ev_eqM (ha : EvR pur K ta σ W (Raw.mk (.ref y))) (r : MarkAt K CL CM W y names m ks) (hb : EvP pur tb σ W (fun v W' => ∃ z, v = .ref z ∧ MarkAt K CL CM W' z n2 n ls)) : EvR pur K (tOp (rInsEq CM (sp_Marks___eq__ K CL CM) E0) ta tb) σ W (eqM names n2 m n ks ls) := fun W1 g1 Q k =>
  ha W1 g1 _ fun v W2 g2 ev => hb W2 (g1.trans g2) _ fun u W3 g3 ⟨z, eu, rz⟩ => by
    subst eu
    have r3 := r.gr ((g1.trans g2).trans g3).pure
    obtain ⟨dx, lx, wx, hx, _⟩ := id r3.ex
    obtain ⟨dy, ly, wy, hy, _⟩ := id rz.ex
    rw [show v = V.ref y from ev]
    exact ⟨y, z, dx, dy, _, _, rfl, rfl, hx, hy, W3, y, names, m, ks, .ref z, rfl, rfl, r3, .inl ⟨z, n2, n, ls, rfl, rz, fun W4 g4 => k _ W4 ((g2.trans g3).and g4) rfl⟩⟩
theorem ev_neM (ha : EvR pur K ta σ W (Raw.mk (.ref y))) (r : MarkAt K CL CM W y names m ks) (hb : EvP pur tb σ W (fun v W' => ∃ z, v = .ref z ∧ MarkAt K CL CM W' z n2 n ls)) : EvR pur K (tOp (rInsNe CM (sp_Marks___eq__ K CL CM) E0) ta tb) σ W (!eqM names n2 m n ks ls) := fun W1 g1 Q k =>
  ha W1 g1 _ fun v W2 g2 ev => hb W2 (g1.trans g2) _ fun u W3 g3 ⟨z, eu, rz⟩ => by
    subst eu
    have r3 := r.gr ((g1.trans g2).trans g3).pure
    obtain ⟨dx, lx, wx, hx, _⟩ := id r3.ex
    obtain ⟨dy, ly, wy, hy, _⟩ := id rz.ex
    rw [show v = V.ref y from ev]
    exact ⟨y, z, dx, dy, _, _, rfl, rfl, hx, hy, W3, y, names, m, ks, .ref z, rfl, rfl, r3, .inl ⟨z, n2, n, ls, rfl, rz, fun W4 g4 => ⟨_, rfl, k _ W4 ((g2.trans g3).and g4) rfl⟩⟩⟩
theorem ep_refM (hb : EvR pur K tb σ W (Raw.mk (.ref z))) (r : MarkAt K CL CM W z n2 n ls) : EvP pur tb σ W (fun v W' => ∃ z, v = .ref z ∧ MarkAt K CL CM W' z n2 n ls) := fun W1 g1 Q k => hb W1 g1 _ fun v W2 g2 e => k v W2 g2 ⟨z, e, r.gr (g1.trans g2).pure⟩
theorem eqM_self : eqM names names m m ks ks = true := by
  unfold eqM
  rw [decide_eq_true rfl, decide_eq_true rfl]
  rfl
end
theorem notIfH {te : TE} {A B : TS} {tz : TS} {D : Ends} {σ : SS} {H : Hp} (h : te σ H fun x H1 => ∃ c, x = V.bl c ∧ (if (!c) = true then A { D with nx := tz D } σ H1 else B { D with nx := tz D } σ H1)) : tSeq (tIfS (tNot (tB te)) A B) tz D σ H := h
theorem dropHM {te : TE} {tz : TS} {D : Ends} {σ : SS} {H : Hp} (h : te σ H fun _ H1 => tz D σ H1) : tSeq (tDrop te) tz D σ H := h
theorem zipM : ∀ {rs : List MQ} {x : Raw × PLn}, x ∈ (rawsM rs).zip (plnsM rs) → ∃ q, q ∈ rs ∧ x = (Raw.mk (.ref q.y), PLn.mk q.m q.S)
  | [], x, h => by cases h
  | q :: rs, x, h => by
    rcases List.mem_cons.mp h with h | h
    · exact ⟨q, List.mem_cons_self, h⟩
    · obtain ⟨r, hr, e⟩ := zipM (rs := rs) h
      exact ⟨r, List.mem_cons_of_mem _ hr, e⟩
theorem ev_neAny {K : Fg} {CL CM : Addr} {W : Wd} {σ : SS} {y : Addr} {names : List Str} {m : Nat} {ks : List Str} {ta tb : TE} (ha : EvR pur K ta σ W (Raw.mk (.ref y))) (r : MarkAt K CL CM W y names m ks) (hb : EvP pur tb σ W (fun v W' => NoMk K CM v W' ∧ ∃ t, TyX K W'.H v t ∧ PySem.W.notFirst K CM t = true)) : EvR pur K (tOp (rInsNeA K CM (sp_Marks___eq__ K CL CM) E0) ta tb) σ W true := fun W1 g1 Q k =>
  ha W1 g1 _ fun v W2 g2 ev => hb W2 (g1.trans g2) _ fun u W3 g3 ⟨nm, t, ty, nf⟩ => by
    have r3 := r.gr ((g1.trans g2).trans g3).pure
    obtain ⟨dx, lx, wx, hx, _⟩ := id r3.ex
    rw [show v = V.ref y from ev]
    exact ⟨y, dx, _, t, rfl, hx, ty, nf, W3, y, names, m, ks, u, rfl, rfl, r3, .inr ⟨nm, fun W4 g4 => ⟨false, rfl, k _ W4 ((g2.trans g3).and g4) rfl⟩⟩⟩
theorem meet0 {ks : List Str} {m : Nat} (h : ks.length ≤ m) (h8 : m ≤ 8) : ks.length ≤ 1000 := by omega
section
variable {K : Fg} {vs : List V} {H : Hp} {Q : VK} {E : XK} {CL CJ CM : Addr}
/-- new marks, one for each of some numbers -/
theorem marks_made {W : Wd} {σ : SS} {i j l : Nat} {va vw : V} {names : List Str} {ws : List Int} (al : Alpha names) (hi : σ[i]? = some (some vw)) (hj : ((wipe σ [l])[j]? = some (some va)) ∧ j ≠ l) (hl : l < σ.length) (rw' : rep K W.B vw ws) (ra : rep K W.B va names) (hw : ∀ w ∈ ws, 1 ≤ w ∧ w ≤ 8) (hlen : ws.length ≤ 100000) (Q : VK)
    (k : ∀ vm (qs : List MQ) W', Grow W W' → rep K W'.B vm (rawsM qs) → MGrp K CL CM W' names qs → qs.map (fun q => (q.m : Int)) = ws → (∀ q ∈ qs, q.S = []) → Q vm W'.H) :
    tLc (iList K (tVar i)) (gName l) tYes (tMake CM (sp_Marks___init__ K CL CM) [] E0 (tCons (tMake CL (sp_Letters___init__ K CL) [] E0 (tCons (tVar j) tNil)) (tCons (tVar l) tNil))) [l] σ W.H Q := by
  refine en_lcI (K := K) (W := W) (σ := σ) (xs := ws) (EvJ.i (ei_list (ev_var (i := i) hi rw')))
    (fun vs f => ∃ qs : List MQ, vs = qs.map (fun q => V.ref q.y) ∧ qs.map (fun q => (q.m : Int)) = ws.take vs.length ∧ (∀ q ∈ qs, q.ks = [] ∧ q.S = [] ∧ 1 ≤ q.m ∧ q.m ≤ 8) ∧ (∀ k q, qs[k]? = some q → f 1 k = some (mkT K CL CM names q.y q.m)) ∧ ∀ k, qs.length ≤ k → f 1 k = none)
    (f0 := fun _ _ => none) (All.none_ W) ⟨[], rfl, by simp, (fun q h => by cases h), (fun k q h => by simp at h), fun k _ => rfl⟩ ?_ hlen W (.refl _ _) Q ?_
  · rintro x v vs f W1 hx G rv A ⟨qs, e1, e2, e3, e4, e5⟩
    obtain ⟨w1, w8⟩ := hw x (List.mem_of_getElem? hx)
    obtain ⟨m, rfl⟩ : ∃ m : Nat, x = (m : Int) := ⟨x.toNat, by omega⟩
    have hvs : vs.length = qs.length := by rw [e1, List.length_map]
    have hjj : ((wipe σ [l]).set l (some v))[j]? = some (some va) := by rw [List.getElem?_set_ne hj.2.symm]; exact hj.1
    have hll : ((wipe σ [l]).set l (some v))[l]? = some (some v) := by
      rw [List.getElem?_set_self]
      simp [wipe]
      exact hl
    refine fun W2 g2 Q q => ep_marksM (K := K) (CL := CL) (CM := CM) (W := W1) (names := names) (m := m) (ep_letters (K := K) (C := CL) (ε := pur) (names := names) (fun _ _ _ _ h => h) (ev_var (i := j) hjj (rep_g G ra)) al) (ev_var (i := l) hll rv) (by omega) (by omega) W2 g2 _ fun u W3 g3 ⟨y, eu, ry, hy⟩ => q u W3 g3 ⟨1, vs.length, mkT K CL CM names y m, ⟨qs ++ [⟨y, m, [], []⟩], ?_, ?_, ?_, ?_, ?_⟩, e5 _ (by omega), ry, fun a ha => by rw [List.mem_singleton.mp ha]; exact hy⟩
    · rw [e1, eu, List.map_append]; rfl
    · rw [List.map_append, e2, List.length_append, List.length_singleton, List.take_add_one, hx]; rfl
    · intro q hq
      rcases List.mem_append.mp hq with hq | hq
      · exact e3 q hq
      · rw [List.mem_singleton.mp hq]; exact ⟨rfl, rfl, by show 1 ≤ m; omega, by show m ≤ 8; omega⟩
    · intro k q hk
      by_cases c : k = vs.length
      · subst c
        rw [thput_same]
        rw [List.getElem?_append_right (by omega), hvs, Nat.sub_self] at hk
        cases hk
        rfl
      · rw [thput_ne (.inr c)]
        refine e4 k q ?_
        by_cases c2 : k < qs.length
        · rw [List.getElem?_append_left c2] at hk; exact hk
        · rw [List.getElem?_append_right (by omega)] at hk
          have : 1 ≤ k - qs.length := by omega
          rw [List.getElem?_eq_none (by simpa using this)] at hk
          cases hk
    · intro k hk
      rw [List.length_append, List.length_singleton] at hk
      rw [thput_ne (.inr (by omega))]
      exact e5 k (by omega)
  · rintro p vs f W2 g2 hp b2 h2 hlv A ⟨qs, e1, e2, e3, e4, e5⟩ hp2
    have rr : ∀ (H : Hp), Reps K H vs (rawsM qs) := fun H => by
      rw [e1]
      clear e2 e3 e4 e5 A hlv e1 h2
      induction qs with
      | nil => exact .nil
      | cons q qs ih => exact .cons rfl ih
    refine k (.ref p) qs (W2.fix p _ h2) (md_fix g2 h2 b2 hp) ⟨p, vs, rfl, upd_same, rr _⟩ ⟨fun q hq => ?_, fun q hq => ?_, ?_⟩ (by rw [e2, hlv, List.take_length]) fun q hq => (e3 q hq).2.1
    · obtain ⟨j, hj, ej⟩ := List.getElem_of_mem hq
      have hk := e4 j q (by rw [List.getElem?_eq_getElem hj, ej])
      have r : MarkAt K CL CM W2 q.y names q.m [] := A.get hk
      rw [(e3 q hq).1]
      have yp : q.y ≠ p := fun z => hp2 1 j _ hk (by rw [← z]; exact List.mem_singleton.mpr rfl)
      obtain ⟨dy, l', w, h1, h3, h4⟩ := r.ex
      exact ⟨(upd_ne yp).trans r.b, dy, l', w, h1, h3.on ⟨ex_fix h2 b2, fun _ _ _ h => h⟩, Py.mono (exExt (ex_fix h2 b2)) h4⟩
    · exact ⟨(e3 q hq).2.2.1, (e3 q hq).2.2.2, by rw [(e3 q hq).1, (e3 q hq).2.1]; unfold kp; simp, by rw [(e3 q hq).2.1]; exact List.nodup_nil, by rw [(e3 q hq).2.1]; intro s h; cases h⟩
    · refine List.pairwise_iff_getElem.mpr fun i j hi hj hij e => ?_
      rw [List.getElem_map, List.getElem_map] at e
      rw [List.length_map] at hi hj
      have h1 := e4 i _ (List.getElem?_eq_getElem hi)
      have h3 := e4 j _ (List.getElem?_eq_getElem hj)
      exact A.ap 1 i _ 1 j _ h1 h3 (.inr (by omega)) qs[i].y (List.mem_singleton.mpr rfl) (List.mem_singleton.mpr e)
theorem rd_law (cl : LettersC K CL) (cj : JarsC K CJ) (cm : MarksC K CM) (nk : NotMk K CL CJ CM) (ns : NotMs K CJ CM) (h : sp_law K vs H Q E) : t_law K CL CJ CM { nx := fun _ H' => Q .non H', rt := Q } (start n_law vs) H := by
  obtain ⟨a, is, rfl, hS, hl, hT, k⟩ := h
  obtain ⟨hTf, haf⟩ := hT "_law_refused_first" (by simp)
  obtain ⟨hTp, hap⟩ := hT "_law_refused_poured" (by simp)
  obtain ⟨hTr, har⟩ := hT "_law_refused_right" (by simp)
  let W : Wd := ⟨fun b => if b ∈ tabsL K then none else H b, H, fun b o e => by
    by_cases c : b ∈ tabsL K
    · have e' : (if b ∈ tabsL K then none else H b) = some o := e
      rw [if_pos c] at e'; cases e'
    · have e' : (if b ∈ tabsL K then none else H b) = some o := e
      rw [if_neg c] at e'; exact .inl e'⟩
  have mkTab : ∀ {P : Addr} {q : Str}, P ∈ tabsL K → H P = some (.tbl #[]) → TabAt W P q := fun hP h => ⟨if_pos hP, #[], h, True.intro, fun pos cv hc => by
    have z : codeAmong pos [] = some cv := hc
    simp [codeAmong] at z⟩
  have tW : Tabs3 K W := ⟨mkTab (by simp) hTf, mkTab (by simp) hTp, mkTab (by simp) hTr⟩
  have hB : W.B a = H a := if_neg fun z => by
    simp only [tabsL, List.mem_cons, List.not_mem_nil, or_false] at z
    rcases z with z | z | z
    · exact haf z
    · exact hap z
    · exact har z
  have hSB : SqL K W.B a (is.map V.int) := by
    rcases hS with (h | ⟨o, h⟩) | h
    · exact .inl (.inl (hB.trans h))
    · exact .inl (.inr ⟨o, hB.trans h⟩)
    · exact .inr h
  show t_law K CL CJ CM _ [some (.ref a), none, none, none, none, none, none, none, none, none, none, none, none, none, none, none] W.H
  refine q_asgHM (opHM ?_)
  refine ⟨_, rfl, W, a, is, rfl, rfl, hSB, hl, fun p0 c W1 g1 s1 hp0 hc0 => ?_⟩
  refine lstHM ⟨Evl.sz_of (by show 1 ≤ 100000; decide), fun l hl0 => ?_⟩
  obtain ⟨sa, sm, scs, hs1, hs2, hs3, hs4, hs5, hs6, hs7⟩ := id s1.ex
  have pl : p0 ≠ l := fun z => by rw [z, hl0] at hs1; cases hs1
  have clne : c ≠ l := fun z => by rw [z, hl0] at hs2; cases hs2
  let W2 : Wd := W1.add l (.lst [.int 0])
  have g2 : Grow W1 W2 := W1.grow_add hl0
  refine ⟨p0, l, [.ref c, .int sa, .int sm], [.int 0], rfl, rfl, (upd_ne pl).trans hs1, upd_same, Evl.sz_of (by show 4 ≤ 100000; decide), fun p hp' => ?_⟩
  have hp : W2.H p = none := hp'
  let W3 : Wd := W2.put p (.lst [.ref c, .int sa, .int sm, .int 0]) (W2.free hp)
  have g3 : Grow W2 W3 := W2.grow_put hp
  have G3 := (g1.trans g2).trans g3
  have hc2 : W2.H c = some (.lst (scs.map V.int)) := (upd_ne clne).trans hs2
  have npc : p ≠ c := fun z => by rw [z, hc2] at hp; cases hp
  have bc2 : W2.B c = none := (upd_ne clne).trans s1.bc
  have s3 : St W3 p c := ⟨W2.free hp, bc2, npc, sa, sm, 0, scs, upd_same, (upd_ne npc.symm).trans hc2, hs3, hs4, hs5, hs6, hs7⟩
  have t2 := (tW.gr g1).gr g2
  have t3 := t2.gr g3
  have pt : p ∉ tabsL K := fun z => by
    simp only [tabsL, List.mem_cons, List.not_mem_nil, or_false] at z
    rcases z with rfl | rfl | rfl
    · obtain ⟨ps, e, _⟩ := t2.f.ex; rw [e] at hp; cases hp
    · obtain ⟨ps, e, _⟩ := t2.p.ex; rw [e] at hp; cases hp
    · obtain ⟨ps, e, _⟩ := t2.r.ex; rw [e] at hp; cases hp
  have ct : c ∉ tabsL K := fun z => by
    simp only [tabsL, List.mem_cons, List.not_mem_nil, or_false] at z
    rcases z with rfl | rfl | rfl
    · rw [show W.H _ = _ from hTf] at hc0; cases hc0
    · rw [show W.H _ = _ from hTp] at hc0; cases hc0
    · rw [show W.H _ = _ from hTr] at hc0; cases hc0
  have tS : ∀ a ∈ tabsL K, a ∉ (drw p c).S := fun a ha h => by
    simp only [drw, List.mem_cons, List.not_mem_nil, or_false] at h
    rcases h with rfl | rfl
    · exact pt ha
    · exact ct ha
  show tSeq _ _ _ [some (.ref a), some (.ref p), none, none, none, none, none, none, none, none, none, none, none, none, none, none] W3.H
  refine q_asgHM ?_
  refine ⟨_, rfl, W3, p, c, 1, 12, rfl, rfl, s3, by decide, by decide, by decide, fun va names W4 m4 s4 ra4 al al1 al2 => ?_⟩
  have lo := al.lo
  have hi := al.hi
  have t4 := t3.g m4 tS
  have nd := al.nd
  obtain ⟨n0, L0, hnL⟩ : ∃ n0 L, names = n0 :: L := by
    cases e : names with
    | nil => rw [e] at lo; exact absurd lo (by decide)
    | cons n0 L => exact ⟨n0, L, rfl⟩
  have hn0 : names[0]? = some n0 := by rw [hnL]; rfl
  have mem0 : n0 ∈ names := by rw [hnL]; exact List.mem_cons_self
  -- how many
  let S4 : SS := [some (.ref a), some (.ref p), some va, none, none, none, none, none, none, none, none, none, none, none, none, none]
  show tSeq _ _ _ S4 W4.H
  refine q_asgP (ε := drw p c) (W := W4) (σ := S4) (ep_lcQ (K := K) (α := Int) (β := Int) (R := fun z : Int => 1 ≤ z ∧ z ≤ 8) (P := fun xs => ∃ n : Int, (2 ≤ n ∧ n ≤ 3) ∧ xs = rng 0 n.toNat)
    (ei_rngQ (P := fun n : Int => 2 ≤ n ∧ n ≤ 3) (fun W5 g5 Q q => ep_add (m := 2) (P := fun n => 0 ≤ n ∧ n < 2) (ev_draw (K := K) (σ := S4) (i := 1) rfl (ev_int (n := 2)) (by decide) (by decide)) W5 g5 Q fun v W6 g6 ⟨n, e, h⟩ => q v W6 g6 ⟨2 + n, e, by omega⟩) (fun n h => by omega))
    (fun xs ⟨n, h, e⟩ => by rw [e, rng_len]; omega)
    (fun x v W' g rx W5 g5 Q q => ep_add (m := 1) (P := fun n => 0 ≤ n ∧ n < 8) (ev_draw (K := K) (σ := (wipe S4 [4]).set 4 (some v)) (i := 1) rfl (ev_int (n := 8)) (by decide) (by decide)) W5 g5 Q fun v W6 g6 ⟨n, e, h⟩ => q v W6 g6 ⟨1 + n, by omega, e⟩)) s4 fun vw W5 g5 ⟨xs, ws, ⟨nw, hnw, exs⟩, lws, hws, rws⟩ => ?_
  have lw : 2 ≤ ws.length ∧ ws.length ≤ 3 := by rw [lws, exs, rng_len]; omega
  have s5 : St W5 p c := g5.i
  have t5 := t4.g g5.md tS
  have ra5 := rep_s g5 ra4
  let S5 : SS := [some (.ref a), some (.ref p), some va, some vw, none, none, none, none, none, none, none, none, none, none, none, none]
  show tSeq _ _ _ S5 W5.H
  refine parR2M ?_
  refine marks_made (K := K) (CL := CL) (CM := CM) (W := W5) (σ := S5) (i := 3) (j := 2) (l := 7) (va := va) (vw := vw) (names := names) (ws := ws) al rfl ⟨rfl, by decide⟩ (by show 7 < 16; decide) rws ra5 hws (by omega) _ fun vm qs W6 g6 rm6 M6 eqs eS => ?_
  have lq : qs.length = ws.length := by rw [← eqs, List.length_map]
  have s6 := s5.g g6
  have t6 := t5.gr g6
  have ra6 := rep_g g6 ra5
  have rw6 := rep_g g6 rws
  refine (en_lcN (K := K) (ε := pur) (σ := S5) (W := W6) (j := 7) (xs := ws) (f := fun w : Int => PLn.mk w []) (EvJ.i (ei_list (ev_var (i := 3) rfl rw6))) (fun x v W' hx g rv => ev_pl (ev_var (i := 7) rfl rv) (ev_tupN ea_nil (by show 0 ≤ 100000; decide))) (by omega)) W6 (.start trivial) _ fun tp vs7 W7 g7 f7 b7 h7 r7 => ⟨_, _, rfl, ?_⟩
  have mp7 : LMut K W7 tp (plnsM qs) := ⟨b7, vs7, h7, by
    have e : plnsM qs = ws.map fun w : Int => PLn.mk w [] := by
      rw [← eqs, List.map_map]
      exact List.map_congr_left fun q hq => by show PLn.mk q.m q.S = PLn.mk q.m []; rw [eS q hq]
    rw [e]
    exact r7⟩
  have s7 := s6.g g7.pure
  have t7 := t6.gr g7.pure
  have M7 := M6.gr g7.pure
  have rm7 := rep_s g7 rm6
  have ra7 := rep_s g7 ra6
  have rw7 := rep_s g7 rw6
  have sd6 := s6.dom
  have ntp : tp ≠ p := fun z => sd6.1 (by rw [← z]; exact f7)
  have ntc : tp ≠ c := fun z => sd6.2 (by rw [← z]; exact f7)
  have tt : tp ∉ tabsL K := fun z => by
    simp only [tabsL, List.mem_cons, List.not_mem_nil, or_false] at z
    rcases z with rfl | rfl | rfl
    · obtain ⟨ps, e, _⟩ := t6.f.ex; rw [e] at f7; cases f7
    · obtain ⟨ps, e, _⟩ := t6.p.ex; rw [e] at f7; cases f7
    · obtain ⟨ps, e, _⟩ := t6.r.ex; rw [e] at f7; cases f7
  let ys : List Addr := qs.map (·.y)
  have rawY : ∀ {rs : List MQ}, rs.map (·.y) = ys → rawsM rs = rawsM qs := fun {rs} h => by
    have e1 : rawsM rs = (rs.map (·.y)).map fun y => Raw.mk (.ref y) := by rw [List.map_map]; rfl
    have e2 : rawsM qs = (qs.map (·.y)).map fun y => Raw.mk (.ref y) := by rw [List.map_map]; rfl
    rw [e1, e2, h]
  have hS7 : SqL K W7.B a (is.map V.int) := (exExt g7.md.b).l ((exExt g6.b).l ((exExt g5.md.b).l ((exExt m4.b).l ((exExt G3.b).l hSB))))
  let S7 : Option V → Option V → Option V → Option V → Option V → Option V → Option V → Option V → Option V → Option V → SS := fun v4 v7 v8 v9 v10 v11 v12 v13 v14 v15 => [some (.ref a), some (.ref p), some va, some vw, v4, some vm, some (.ref tp), v7, v8, v9, v10, v11, v12, v13, v14, v15]
  show tSeq _ _ _ (S7 none none none none none none none none none none) W7.H
  refine q_for (ε := pur) (K := K) (W := W7) (σ := S7 none none none none none none none none none none) (ei_rng1 (ev_cb2 ev_int (ev_cb2 (ev_lenQ hS7 rfl) ev_int rc_min2) rc_max2) (by split <;> split <;> omega) (by split <;> split <;> omega)) trivial fun W8 g8' => ?_
  have g8 := g8'.pure
  refine ⟨fun t σ' W' => ∃ (v7 v8 v9 v10 v11 v12 v13 v14 v15 : Option V) (rs : List MQ), σ' = S7 none v7 v8 v9 v10 v11 v12 v13 v14 v15 ∧ On W8 W' ∧ St W' p c ∧ Tabs3 K W' ∧ LMut K W' tp (plnsM rs) ∧ MGrp K CL CM W' names rs ∧ rs.map (·.y) = ys,
    ⟨_, _, _, _, _, _, _, _, _, qs, rfl, .refl _, s7.g g8, t7.gr g8, mp7.gr g8, M7.gr g8, rfl⟩, fun t σ' W' ⟨_, _, _, _, _, _, _, _, _, _, _, o, _⟩ => o, ?_, ?_⟩
  · rintro t tv v W9' W9 W9a ht htv ⟨v7, v8, v9, v10, v11, v12, v13, v14, v15, rs, rfl, o9', s9', t9', mp9', M9', ey⟩ g9 rv
    have s9 := s9'.g g9
    have t9 := t9'.gr g9
    have mp9 := mp9'.gr g9
    have M9 := M9'.gr g9
    have o9 := o9'.trans g9.on
    have lr : rs.length = qs.length := by have e := congrArg List.length ey; rw [List.length_map] at e; exact e.trans (List.length_map _)
    have rmR : ∀ {W' : Wd} {rs : List MQ}, On W8 W' → rs.map (·.y) = ys → rep K W'.B vm (rawsM rs) := fun o e => by rw [rawY e]; exact rep_on o (rep_g g8 rm7)
    have raR : ∀ {W' : Wd}, On W8 W' → rep K W'.B va names := fun o => rep_on o (rep_g g8 ra7)
    obtain ⟨q0, hq0⟩ : ∃ q, rs[0]? = some q := ⟨rs[0]'(by omega), List.getElem?_eq_getElem (by omega)⟩
    have mq0 : q0 ∈ rs := List.mem_of_getElem? hq0
    have ok0 := M9.ok q0 mq0
    have mk0 : ∀ {W' : Wd} {σ : SS} {rs : List MQ} {q : MQ}, σ[5]? = some (some vm) → rep K W'.B vm (rawsM rs) → rs[0]? = some q → EvR pur K (tOp (rIxL K) (tVar 5) (tC (.int 0))) σ W' (Raw.mk (.ref q.y)) := fun h r e => ev_op (ev_var (i := 5) h r) ev_int (ro_ixL (atR (k := 0) e))
    show tSeq _ _ _ (S7 none v7 (some v) v9 v10 v11 v12 v13 v14 v15) W9a.H
    refine q_asgP (ε := pur) (W := W9a) (σ := S7 none v7 (some v) v9 v10 v11 v12 v13 v14 v15) (ep_twinM (K := K) (CL := CL) (CM := CM) (mk0 rfl (rmR o9 ey) hq0) (M9.at_ q0 mq0) ok0.lo ok0.hi) trivial fun vz W10 g10 ⟨z, ez, rz, hz⟩ => ?_
    subst ez
    have zp : z ≠ p := fun e => s9.dom.1 (by rw [← e]; exact hz)
    have zc : z ≠ c := fun e => s9.dom.2 (by rw [← e]; exact hz)
    have ztp : z ≠ tp := fun e => mp9.nt.ne (by rw [← e]; exact hz)
    have zys : z ∉ ys := fun h => by
      rw [← ey] at h
      obtain ⟨q, hq, e⟩ := List.mem_map.mp h
      exact (M9.at_ q hq).nt.ne (by rw [show q.y = z from e]; exact hz)
    have zta : z ∉ tabsL K := fun h => by
      simp only [tabsL, List.mem_cons, List.not_mem_nil, or_false] at h
      rcases h with rfl | rfl | rfl
      · exact t9.f.nt.ne hz
      · exact t9.p.nt.ne hz
      · exact t9.r.nt.ne hz
    have s10 := s9.g g10.pure
    have t10 := t9.gr g10.pure
    have mp10 := mp9.gr g10.pure
    have M10 := M9.gr g10.pure
    have o10 := o9.trans g10.on
    let S8 : Option V → Option V → SS := fun v10 v11 => S7 none v7 (some v) (some (.ref z)) v10 v11 v12 v13 v14 v15
    show tSeq _ _ _ (S8 v10 v11) W10.H
    refine orIfH ?_
    refine (et_test (ev_neM (K := K) (CL := CL) (CM := CM) (σ := S8 v10 v11) (ev_rvar (i := 9) rfl) rz (ep_refM (CL := CL) (mk0 rfl (rmR o10 ey) hq0) (M10.at_ q0 mq0)))) W10 (.start trivial) _ fun W11 g11 => ?_
    rw [eqM_self, if_neg (by decide)]
    have s11 := s10.g g11.pure
    have t11 := t10.gr g11.pure
    have mp11 := mp10.gr g11.pure
    have M11 := M10.gr g11.pure
    have o11 := o10.trans g11.on
    have rz11 := rz.gr g11.pure
    refine (show tTest (tOp oNotN (tCall (sp__law_turn K CL CM) [] E0 (tCons (tVar 1) (tCons (tVar 5) (tCons (tVar 6) (tCons (tVar 2) tNil))))) (tC .non)) (S8 v10 v11) W11.H _ from ⟨_, rfl, _, rfl, _, rfl, _, rfl, W11, p, c, tp, vm, va, names, rs, rfl, rfl, s11, rmR o11 ey, mp11, raR o11, al, M11, ntp, ntc, by omega, by omega, fun W12 rs' md12 s12 mp12 M12 ey12 => ?_⟩)
    have ey' : rs'.map (·.y) = ys := ey12.trans ey
    have bigz : z ∉ p :: c :: tp :: rs.map (·.y) := fun h => by
      rw [ey] at h
      simp only [List.mem_cons] at h
      rcases h with h | h | h | h
      · exact zp h
      · exact zc h
      · exact ztp h
      · exact zys h
    have yta : ∀ {rs : List MQ} {W' : Wd}, rs.map (·.y) = ys → MGrp K CL CM W' names rs → Tabs3 K W' → ∀ x ∈ ys, x ∉ tabsL K := fun {rs W'} e M t x hx => by
      rw [← e] at hx
      obtain ⟨q, hq, rfl⟩ := List.mem_map.mp hx
      exact (M.at_ q hq).out t.noins
    have t12 : Tabs3 K W12 := t11.g md12 fun b hb h => by
      rw [ey] at h
      simp only [List.mem_cons] at h
      rcases h with h | h | h | h
      · exact pt (h ▸ hb)
      · exact ct (h ▸ hb)
      · exact tt (h ▸ hb)
      · exact yta ey M11 t11 b h hb
    have rz12 := rz11.g md12 bigz
    have o12 := o11.trans md12.on
    dsimp only [tC]
    refine ⟨rfl, _, rfl, ?_⟩
    rw [show (!decide ((V.non : V) = V.non)) = false from by rw [decide_eq_true rfl]; rfl, if_neg (by decide)]
    unfold tNext
    dsimp only
    have lr' : rs'.length = qs.length := by have e := congrArg List.length ey'; rw [List.length_map] at e; exact e.trans (List.length_map _)
    obtain ⟨q1, hq1⟩ : ∃ q, rs'[0]? = some q := ⟨rs'[0]'(by omega), List.getElem?_eq_getElem (by omega)⟩
    have mq1 : q1 ∈ rs' := List.mem_of_getElem? hq1
    have ok1 := M12.ok q1 mq1
    show tSeq _ _ _ (S8 v10 v11) W12.H
    refine q_when (ε := pur) (W := W12) (σ := S8 v10 v11) (b := false) ((et_test (ev_op (K := K) (ev_eqM (CL := CL) (ev_rvar (i := 9) rfl) rz12 (ep_refM (CL := CL) (mk0 rfl (rmR o12 ey') hq1) (M12.at_ q1 mq1))) (ev_op (K := K) (ev_pair (em_manyN (CL := CL) (ev_rvar (i := 9) rfl) rz12.pur) (em_keptN (CL := CL) (ev_rvar (i := 9) rfl) rz12.pur)) (ev_pair (em_manyN (CL := CL) (mk0 rfl (rmR o12 ey') hq1) (M12.at_ q1 mq1).pur) (em_keptN (CL := CL) (mk0 rfl (rmR o12 ey') hq1) (M12.at_ q1 mq1).pur)) (ro_eqT (by decide))) ro_neB)).is (by
      unfold eqM
      rw [decide_eq_true (rfl : names = names), Bool.true_and, decide_eq_true rfl]
      rfl)) trivial (fun z => by cases z) fun _ W13 g13 => ?_
    have s13 := s12.g g13.pure
    have t13 := t12.gr g13.pure
    have mp13 := mp12.gr g13.pure
    have M13 := M12.gr g13.pure
    have o13 := o12.trans g13.on
    have rz13 := rz12.gr g13.pure
    show tSeq _ _ _ (S8 v10 v11) W13.H
    refine notIfH ?_
    refine ⟨_, rfl, mk0 rfl (rmR o13 ey') hq1 W13 (.start trivial) _ fun u14 W14 g14 e14 => ⟨_, rfl, (ev_op (K := K) (σ := S8 v10 v11) (ev_ixM (K := K) (i := 6) rfl (mp13.gr g14.pure).pur ev_int (atP (k := 0) hq1)) ev_int ro_plW) W14 (.start trivial) _ fun w15 W15 g15 e15 => ⟨W15, p, c, q1.y, va, names, q1.m, q1.ks, rfl, by rw [show u14 = V.ref q1.y from e14, show w15 = V.int q1.m from e15]; rfl, (s13.g g14.pure).g g15.pure, ((M13.gr g14.pure).gr g15.pure).at_ q1 mq1, ok1.lo, ok1.hi, meet0 ok1.len ok1.hi, raR ((o13.trans g14.on).trans g15.on), al, (t13.gr g14.pure).gr g15.pure, pt, ct, fun W16 md16 s16 t16 => ⟨true, rfl, ?_⟩⟩⟩⟩
    rw [if_neg (by decide)]
    dsimp only
    have M15 := (M13.gr g14.pure).gr g15.pure
    have pcI : NoIns (p :: c :: tabsL K) W15 := fun b hb C dx fs e => by
      have s15 := (s13.g g14.pure).g g15.pure
      have t15 := (t13.gr g14.pure).gr g15.pure
      simp only [List.mem_cons] at hb
      rcases hb with rfl | rfl | hb
      · exact st_noins s15 _ (by simp) C dx fs e
      · exact st_noins s15 _ (by simp) C dx fs e
      · exact t15.noins b (by simpa using hb) C dx fs e
    have M16 := M15.g md16 pcI
    have rz16 := ((rz13.gr g14.pure).gr g15.pure).g md16 (((rz13.gr g14.pure).gr g15.pure).out pcI)
    have mp16 := ((mp13.gr g14.pure).gr g15.pure).g md16 (fun h => by
      simp only [List.mem_cons] at h
      rcases h with h | h | h
      · exact ntp h
      · exact ntc h
      · exact tt (by simpa using h))
    have o16 := ((o13.trans g14.on).trans g15.on).trans md16.on
    show tSeq _ _ _ (S8 v10 v11) W16.H
    refine dropHM ?_
    obtain ⟨xl, hxl, hal⟩ := atI_end (xs := names) (by rw [hnL]; simp)
    refine mcall1 (K := K) (CL := CL) (W := W16) (σ := S8 v10 v11) (a := xl) (ev_rvar (i := 9) rfl) rz16 mf_meet (ev_op (ev_var (i := 2) rfl (raR o16)) (ev_un ev_int ru_neg) (ro_ixL hal)) fun ux W17 g17 ex r17 => ?_
    rw [show ux = V.str xl from ex]
    refine ⟨W17, z, .str xl, names, q0.m, q0.ks, true, rfl, rfl, r17, letk_word (al.ok xl hxl), meet0 ok0.len ok0.hi, .inl ⟨xl, rfl, hxl, fun W18 md18 r18 => ?_⟩⟩
    have s18 : St W18 p c := (s16.g g17).off md18 (by simpa using zp.symm) (by simpa using zc.symm)
    have t18 : Tabs3 K W18 := (t16.gr g17).g md18 fun b hb h => zta (by rw [← List.mem_singleton.mp h]; exact hb)
    have mp18 := (mp16.gr g17).g md18 (by simpa using ztp.symm)
    have M18 : MGrp K CL CM W18 names rs' := ⟨fun q hq => ((M16.gr g17).at_ q hq).g md18 (fun h => zys (by rw [← List.mem_singleton.mp h, ← ey']; exact List.mem_map.mpr ⟨q, hq, rfl⟩)), M16.ok, M16.nd⟩
    have o18 := (o16.trans g17.on).trans md18.on
    show tIfS _ _ _ _ (S8 v10 v11) W18.H
    refine s_when (ε := pur) (W := W18) (σ := S8 v10 v11) (b := false) ((et_not (et_B (ev_cb1 (K := K) (ev_lcP (K := K) (i := 10) (j := 11) (f := fun _ : Raw × PLn => true) (ei_zipRM (i := 5) (j := 6) rfl (rmR o18 ey') rfl mp18) (fun x u w W' hx g ru rw' => ?_) (by
        rw [List.length_zip, List.length_map, List.length_map]
        omega)) rc_all))).is (by simp)) trivial (fun z => by cases z) fun _ W19 g19 => ?_
    · obtain ⟨q, hq, rfl⟩ := zipM hx
      have hr := ((M18.gr g.pure).at_ q hq)
      rw [(M18.ok q hq).k] at hr
      exact fun W19 g19 Q kk => ⟨_, rfl, _, rfl, _, rfl, W19, q.y, va, w, names, q.S, q.m, rfl, by rw [show u = V.ref q.y from ru]; rfl, hr.gr g19.pure, (M18.ok q hq).hi, raR ((o18.trans g.on).trans g19.on), rep_s g19 rw', fun W20 g20 => kk _ W20 (.of g20) rfl⟩
    · exact ⟨W19, rfl, _, _, _, _, _, _, _, _, _, rs', rfl, o18.trans g19.on, s18.g g19.pure, t18.gr g19.pure, mp18.gr g19.pure, M18.gr g19.pure, ey'⟩
  · rintro σ' W9 ⟨v7, v8, v9, v10, v11, v12, v13, v14, v15, rs, rfl, o9, s9, t9, mp9, M9, ey⟩
    have lr : rs.length = qs.length := by have e := congrArg List.length ey; rw [List.length_map] at e; exact e.trans (List.length_map _)
    have rmR : ∀ {W' : Wd} {rs : List MQ}, On W8 W' → rs.map (·.y) = ys → rep K W'.B vm (rawsM rs) := fun o e => by rw [rawY e]; exact rep_on o (rep_g g8 rm7)
    have raR : ∀ {W' : Wd}, On W8 W' → rep K W'.B va names := fun o => rep_on o (rep_g g8 ra7)
    have rwR : ∀ {W' : Wd}, On W8 W' → rep K W'.B vw ws := fun o => rep_on o (rep_g g8 rw7)
    obtain ⟨q0, hq0⟩ : ∃ q, rs[0]? = some q := ⟨rs[0]'(by omega), List.getElem?_eq_getElem (by omega)⟩
    have mq0 : q0 ∈ rs := List.mem_of_getElem? hq0
    have ok0 := M9.ok q0 mq0
    have mk0 : ∀ {W' : Wd} {σ : SS} {rs : List MQ} {q : MQ}, σ[5]? = some (some vm) → rep K W'.B vm (rawsM rs) → rs[0]? = some q → EvR pur K (tOp (rIxL K) (tVar 5) (tC (.int 0))) σ W' (Raw.mk (.ref q.y)) := fun h r e => ev_op (ev_var (i := 5) h r) ev_int (ro_ixL (atR (k := 0) e))
    obtain ⟨w0, hw0'⟩ : ∃ w, ws[0]? = some w := ⟨ws[0]'(by omega), List.getElem?_eq_getElem (by omega)⟩
    obtain ⟨w01, w08⟩ := hws w0 (List.mem_of_getElem? hw0')
    obtain ⟨wn, rfl⟩ : ∃ n : Nat, w0 = (n : Int) := ⟨w0.toNat, by omega⟩
    have wIx : ∀ {W' : Wd} {σ : SS}, σ[3]? = some (some vw) → On W8 W' → EvR pur K (tOp (rIxL K) (tVar 3) (tC (.int 0))) σ W' (wn : Int) := fun h o => ev_op (ev_var (i := 3) h (rwR o)) ev_int (ro_ixL (atI_nat (j := 0) hw0'))
    have lets : ∀ {W' : Wd} {σ : SS}, σ[2]? = some (some va) → On W8 W' → EvP pur (tMake CL (sp_Letters___init__ K CL) [] E0 (tCons (tVar 2) tNil)) σ W' (LetAt K CL names) := fun h o => ep_letters (K := K) (C := CL) (ε := pur) (names := names) (fun _ _ _ _ h => h) (ev_var (i := 2) h (raR o)) al
    have letsR : ∀ {W' : Wd} {σ : SS}, σ[2]? = some (some va) → On W8 W' → EvP pur (tMake CL (sp_Letters___init__ K CL) [] E0 (tCons (tRevL K (tVar 2)) tNil)) σ W' (LetAt K CL names.reverse) := fun h o => ep_letters (K := K) (C := CL) (ε := pur) (names := names.reverse) (fun _ _ _ _ h => h) (ev_revL (ev_var (i := 2) h (raR o))) (alpha_revM al)
    show tSeq _ _ _ (S7 none v7 v8 v9 v10 v11 v12 v13 v14 v15) W9.H
    refine q_par (ε := pur) (P := NewMk K CL CM W9 names wn []) (R := fun v W => rep K W.B v (wn : Int)) (ep_marksKM (lets rfl o9) (wIx rfl o9) (by omega) (by omega)) (wIx rfl o9).p trivial (fun v W W' g ⟨z, e, r, h⟩ => ⟨z, e, r.gr g.pure, h⟩) fun vz vi W10 g10 ⟨z, ez, rz, hz⟩ ri => ?_
    subst ez
    rw [show vi = V.int wn from ri]
    have o10 := o9.trans g10.on
    let S9 : Option V → Option V → Option V → SS := fun v13 v14 v15 => S7 none (some (.int wn)) v8 v9 v10 v11 (some (.ref z)) v13 v14 v15
    show tSeq _ _ _ (S9 v13 v14 v15) W10.H
    have mkN : ∀ {W' : Wd} {σ : SS} {tl : TE} {n2 : List Str}, σ[7]? = some (some (.int wn)) → EvP pur tl σ W' (LetAt K CL n2) → EvP pur (tMake CM (sp_Marks___init__ K CL CM) [] E0 (tCons tl (tCons (tVar 7) tNil))) σ W' (fun v W' => ∃ z, v = .ref z ∧ MarkAt K CL CM W' z n2 wn []) := fun h hl W1 g1 Q k => ep_marksM (K := K) (CL := CL) (CM := CM) hl (ev_var (i := 7) (x := (wn : Int)) h rfl) (by omega) (by omega) W1 g1 Q fun v W2 g2 ⟨y, e, r, _⟩ => k v W2 g2 ⟨y, e, r⟩
    have revd : decide (names = names.reverse) = decide ((names.length : Int) = 1) := by
      by_cases c1 : names.length = 1
      · rw [hnL] at c1 ⊢
        have : L0 = [] := List.eq_nil_of_length_eq_zero (by simpa using c1)
        subst this
        simp
      · have l2 : 2 ≤ names.length := by omega
        rw [decide_eq_false (fun e => rev_neM nd l2 e.symm : ¬ names = names.reverse), decide_eq_false (by omega : ¬ (names.length : Int) = 1)]
    refine q_when (ε := pur) (W := W10) (σ := S9 v13 v14 v15) (b := false) ((et_or (a := false) (b := false) ((et_test (ev_op (K := K) (ev_eqM (CL := CL) (ev_rvar (i := 12) rfl) rz (mkN rfl (letsR rfl o10))) (ev_op (K := K) (ev_cb1 (ev_var (i := 2) rfl (raR o10)) rc_len) ev_int ro_eqI) ro_neB)).is (by
        unfold eqM
        rw [decide_eq_true (rfl : ((wn : Int), Tup.mk ([] : List Str)) = _), Bool.and_true, revd, decide_eq_true rfl]
        rfl)) fun _ => (et_test (ev_neM (CL := CL) (ev_rvar (i := 12) rfl) rz (mkN rfl (lets rfl o10)))).is (by rw [eqM_self]; rfl)).is rfl) trivial (fun z => by cases z) fun _ W11 g11 => ?_
    have o11 := o10.trans g11.on
    have rz11 := rz.gr g11.pure
    obtain ⟨f, fr, ef, wf, nf⟩ := q13_one (names := names) hi
    show tSeq _ _ _ (S9 v13 v14 v15) W11.H
    refine q_asg (ε := pur) (W := W11) (σ := S9 v13 v14 v15) (K := K) (x := f) (ev_op (K := K) ((ev_lcNt (K := K) (j := 14) (xs := q13) (p := fun w => !decide (w ∈ names)) (f := fun x => x) (EvJ.i (ei_list (((en_split (K := K) (by decide +kernel) (by decide +kernel)).toR).is q13_eq))) (fun x v W' hx g rv => et_test (ev_op (K := K) (ev_var (i := 14) rfl rv) (ev_var (i := 2) rfl (raR (o11.trans g.on))) (ro_ninL (by decide)))) (fun x v W' hx hp g rv => ev_var (i := 14) rfl rv) (by decide)).is (by rw [List.map_id', ef])) ev_int (ro_ixL (at_zeroM f fr))) trivial fun v13' W12 g12 r13 => ?_
    rw [show v13' = V.str f from r13]
    have o12 := o11.trans g12.on
    have rz12 := rz11.gr g12.pure
    -- the end
    have fin : ∀ (W' : Wd) (v15 : Option V), On W8 W' → MGrp K CL CM W' names rs → LMut K W' tp (plnsM rs) →
        tRet (tAndV (tOp (rInsNeA K CM (sp_Marks___eq__ K CL CM) E0) (tOp (rIxL K) (tVar 5) (tC (.int 0))) (tMake CJ (sp_Jars___init__ K CL CJ) [] E0 (tCons (tMake CL (sp_Letters___init__ K CL) [] E0 (tCons (tVar 2) tNil)) (tCons (tOp (rIxL K) (tOp (rIxL K) (tVar 6) (tC (.int 0))) (tC (.int 0))) tNil)))) (tOp (rInsNeA K CM (sp_Marks___eq__ K CL CM) E0) (tOp (rIxL K) (tVar 5) (tC (.int 0))) (tVar 2))) { nx := fun _ H' => Q .non H', rt := Q } (S9 (some (.str f)) v14 v15) W'.H := fun W' v15 o M mp => by
      refine s_ret (ε := pur) (K := K) (W := W') (σ := S9 (some (.str f)) v14 v15) (x := true) ((ev_andV (a := true) (b := true) (ev_neAny (CL := CL) (mk0 rfl (rmR o ey) hq0) (M.at_ q0 mq0) fun W1 g1 Q kk => ep_jars (K := K) (CL := CL) (CJ := CJ) (names := names) (n := q0.m) (lets rfl o) (ev_op (K := K) (ev_ixM (K := K) (i := 6) rfl mp.pur ev_int (atP (k := 0) hq0)) ev_int ro_plW) ok0.lo ok0.hi W1 g1 _ fun v W2 g2 hj => by
        obtain ⟨j, i, d, e, rj, _⟩ := hj
        obtain ⟨dj, lj, hj, _⟩ := id rj.ex
        exact kk v W2 g2 ⟨⟨.ref CJ, fun W3 g3 => by rw [e]; exact cj.i.ty (g3.h j _ hj), nk.j⟩, .ref CJ, by rw [e]; exact cj.i.ty hj, by unfold PySem.W.notFirst; rw [ns.fj]; simp⟩) fun _ => ev_neAny (CL := CL) (mk0 rfl (rmR o ey) hq0) (M.at_ q0 mq0) fun W1 g1 Q kk => ⟨va, rfl, kk va W1 g1.rf ⟨⟨.type "list", fun W3 g3 => ty_lst W3 va (rep_g g3 (rep_s g1 (raR o))), nk.l⟩, .type "list", ty_lst W1 va (rep_s g1 (raR o)), by unfold PySem.W.notFirst; rw [ns.fl]; simp⟩⟩).is rfl) trivial fun v W1 g1 rv => ?_
      rw [show v = V.bl true from rv]
      exact k _
    show tSeq _ _ _ (S9 (some (.str f)) v14 v15) W12.H
    refine q_when (ε := pur) (W := W12) (σ := S9 (some (.str f)) v14 v15) (b := decide ((names.length : Int) < 12)) (et_test (ev_op (K := K) (ev_cb1 (ev_var (i := 2) rfl (raR o12)) rc_len) ev_int ro_B0)) trivial (fun hb W13 g13 => ?_) (fun _ W13 g13 => fin W13 v15 (o12.trans g13.on) (((M9.gr g10.pure).gr g11.pure).gr (g12.pure.trans g13.pure)) (((mp9.gr g10.pure).gr g11.pure).gr (g12.pure.trans g13.pure)))
    have h11 : names.length ≤ 11 := by have := of_decide_eq_true hb; omega
    have o13 := o12.trans g13.on
    have rz13 := rz12.gr g13.pure
    have zys : z ∉ ys := fun h => by
      rw [← ey] at h
      obtain ⟨q, hq, e⟩ := List.mem_map.mp h
      exact (M9.at_ q hq).nt.ne (by rw [show q.y = z from e]; exact hz)
    have ztp : z ≠ tp := fun e => mp9.nt.ne (by rw [← e]; exact hz)
    have al2 := alpha_moreM al h11 wf nf
    show tSeq _ _ _ (S9 (some (.str f)) v14 v15) W13.H
    refine q_asgP (ε := pur) (W := W13) (σ := S9 (some (.str f)) v14 v15) (fun W1 g1 Q kk => ep_marksM (K := K) (CL := CL) (CM := CM) (names := names ++ [f]) (m := wn) (ep_letters (K := K) (C := CL) (ε := pur) (names := names ++ [f]) (fun _ _ _ _ h => h) (ev_op (K := K) (ev_var (i := 2) rfl (raR o13)) (ev_lst (ea_cons (ev_var (i := 13) (x := f) rfl rfl) ea_nil) (by show 1 ≤ 100000; decide)) (ro_cat (by show names.length + 1 ≤ 100000; omega))) al2) (ev_var (i := 7) (x := (wn : Int)) rfl rfl) (by omega) (by omega) W1 g1 Q kk) trivial fun vl W14 g14 ⟨yl, el, rl, hyl⟩ => ?_
    subst el
    have o14 := o13.trans g14.on
    have rz14 := rz13.gr g14.pure
    have nzl : yl ≠ z := fun e => rz13.nt.ne (by rw [← e]; exact hyl)
    show tSeq _ _ _ (S9 (some (.str f)) v14 (some (.ref yl))) W14.H
    have e0 : ∀ {W' : Wd} {v15 : Option V}, On W8 W' → EvR pur K (tOp (rIxL K) (tVar 2) (tC (.int 0))) (S9 (some (.str f)) v14 v15) W' n0 := fun o => ev_op (ev_var (i := 2) rfl (raR o)) ev_int (ro_ixL (atI_nat (j := 0) hn0))
    refine dropHM ?_
    obtain ⟨dl, ll, wl, hl1, hl2, hl3⟩ := id rl.ex
    refine ⟨_, rfl, yl, dl, _, rfl, hl1, mf_no mf_meet.1 mf_meet.2.1 mf_meet.2.2, e0 o14 W14 (.start trivial) _ fun vx W15 g15 ex => ⟨rfl, ?_⟩⟩
    rw [show vx = V.str n0 from ex]
    have mem1 : n0 ∈ names ++ [f] := List.mem_append_left _ mem0
    refine ⟨W15, yl, .str n0, names ++ [f], wn, [], true, rfl, rfl, rl.gr g15.pure, letk_word (al.ok n0 mem0), by decide, .inl ⟨n0, rfl, mem1, fun W16 md16 r16 => ?_⟩⟩
    have o16 := (o14.trans g15.on).trans md16.on
    have rz16 := (rz14.gr g15.pure).g md16 (by simpa using nzl.symm)
    show tSeq _ _ _ (S9 (some (.str f)) v14 (some (.ref yl))) W16.H
    refine dropHM ?_
    refine mcall1 (K := K) (CL := CL) (W := W16) (σ := S9 (some (.str f)) v14 (some (.ref yl))) (a := n0) (ev_rvar (i := 12) rfl) rz16 mf_meet (e0 o16) fun ux W17 g17 ex r17 => ?_
    rw [show ux = V.str n0 from ex]
    refine ⟨W17, z, .str n0, names, wn, [], true, rfl, rfl, r17, letk_word (al.ok n0 mem0), by decide, .inl ⟨n0, rfl, mem0, fun W18 md18 r18 => ?_⟩⟩
    have o18 := (o16.trans g17.on).trans md18.on
    have rl18 := (r16.gr g17).g md18 (by simpa using nzl)
    have k1 : keepM (names ++ [f]) wn ([] ++ [n0]) = [n0] := by
      have e : names ++ [f] = n0 :: (L0 ++ [f]) := by rw [hnL]; rfl
      rw [e]
      exact keep_first (by rw [← e]; exact al2.nd) (by omega)
    have k2 : keepM names wn ([] ++ [n0]) = [n0] := by
      have h := keep_first (n0 := n0) (L := L0) (m := wn) (by rw [← hnL]; exact nd) (by omega)
      rw [← hnL] at h
      exact h
    rw [k1] at rl18
    rw [k2] at r18
    have nel : names ++ [f] ≠ names := fun e => by
      have := congrArg List.length e
      simp at this
    have yys : yl ∉ ys := fun h => by
      rw [← ey] at h
      obtain ⟨q, hq, e⟩ := List.mem_map.mp h
      exact (((M9.gr g10.pure).gr g11.pure).gr (g12.pure.trans g13.pure)).at_ q hq |>.nt.ne (by rw [show q.y = yl from e]; exact hyl)
    have ytp : yl ≠ tp := fun e => (((mp9.gr g10.pure).gr g11.pure).gr (g12.pure.trans g13.pure)).nt.ne (by rw [← e]; exact hyl)
    have M14 := ((((M9.gr g10.pure).gr g11.pure).gr (g12.pure.trans g13.pure)).gr g14.pure).gr g15.pure
    have mp14 := ((((mp9.gr g10.pure).gr g11.pure).gr (g12.pure.trans g13.pure)).gr g14.pure).gr g15.pure
    have offM : ∀ {x : Addr} {W W' : Wd}, x ∉ ys → MGrp K CL CM W names rs → Md [x] W W' → MGrp K CL CM W' names rs := fun hx M md => ⟨fun q hq => (M.at_ q hq).g md (fun h => hx (by rw [← List.mem_singleton.mp h, ← ey]; exact List.mem_map.mpr ⟨q, hq, rfl⟩)), M.ok, M.nd⟩
    have M18 := offM zys ((offM yys M14 md16).gr g17) md18
    have mp18 := ((mp14.g md16 (by simpa using ytp.symm)).gr g17).g md18 (by simpa using ztp.symm)
    show tIfS _ _ _ _ (S9 (some (.str f)) v14 (some (.ref yl))) W18.H
    refine s_when (ε := pur) (W := W18) (σ := S9 (some (.str f)) v14 (some (.ref yl))) (b := false) ((et_or (a := false) (b := false) ((et_test (ev_eqM (CL := CL) (ev_rvar (i := 15) rfl) rl18 (ep_refM (CL := CL) (ev_rvar (i := 12) rfl) r18))).is (by unfold eqM; rw [decide_eq_false nel]; rfl)) fun _ => (et_or (a := false) (b := false) ((et_test (ev_eqM (CL := CL) (ev_rvar (i := 12) rfl) r18 (ep_refM (CL := CL) (ev_rvar (i := 15) rfl) rl18))).is (by unfold eqM; rw [decide_eq_false nel.symm]; rfl)) fun _ => (et_test (ev_op (K := K) (em_keptN (CL := CL) (ev_rvar (i := 15) rfl) rl18.pur) (em_keptN (CL := CL) (ev_rvar (i := 12) rfl) r18.pur) (ro_neT (by decide)))).is (by rw [decide_eq_true rfl]; rfl)).is rfl).is rfl) trivial (fun z => by cases z) fun _ W19 g19 => fin W19 (some (.ref yl)) (o18.trans g19.on) (M18.gr g19.pure) (mp18.gr g19.pure)
end
end B
namespace B
open PySem L2 PyProof.Rows PySem.Spec
open Evl (Ex)
def relS (scope sc : Scope) : Scope := { scope with names := scope.names.map fun (n, k) => if (k == .free && sc.kind == .function && sc.names.lookup n == some .cell) then (n, .cell) else (n, k) }
theorem blkOk_in {X : Cx} {N : List Str} {scO sc scope : Scope} {own : List (Str × Nat)} {s : Shared} {H : Hp} {C : Addr} {cl : List (Str × Addr)} {fp : List Addr} (hN : X.N = N) (hsc : X.env.scope = sc) (h : blkC N (relS scO sc) scope own = true) : BlkOk (X.blk s H scO (compEnvC scO cl C X.env) fp).N (X.blk s H scO (compEnvC scO cl C X.env) fp).env.scope scope own := by
  subst hN hsc
  exact blkOk_by h
def topS (i : Nat) : Stmt := PySem.Challenge.pw_bygone_k13_marks_kept.main.body.getD i (.Pass ⟨0, 0, 0, 0⟩)
/-! NoLetter.__init__ -/
abbrev s_NoLetter___init__ : Stmt := inClass (topS 3) 0
theorem sc_NoLetter___init__ : FnScope n_NoLetter___init__ ["self", "name"] (defScope s_NoLetter___init__) := ⟨rfl, rfl, rfl, by decide +kernel, rfl, by decide +kernel, by decide +kernel⟩
/-! is_whole -/
abbrev s_is_whole : Stmt := topS 15
theorem sc_is_whole : FnScope n_is_whole ["thing"] (defScope s_is_whole) := ⟨rfl, rfl, rfl, by decide +kernel, rfl, by decide +kernel, by decide +kernel⟩
/-! is_letter -/
abbrev s_is_letter : Stmt := topS 16
theorem sc_is_letter : FnScope n_is_letter ["thing"] (defScope s_is_letter) := ⟨rfl, rfl, rfl, by decide +kernel, rfl, by decide +kernel, by decide +kernel⟩
/-! Letters.__init__ -/
abbrev s_Letters___init__ : Stmt := inClass (topS 17) 0
theorem sc_Letters___init__ : FnScope n_Letters___init__ ["self", "names"] (defScope s_Letters___init__) := ⟨rfl, rfl, rfl, by decide +kernel, rfl, by decide +kernel, by decide +kernel⟩
/-! Letters.ranked -/
abbrev s_Letters_ranked : Stmt := inClass (topS 17) 4
theorem sc_Letters_ranked : FnScope n_Letters_ranked ["self"] (defScope s_Letters_ranked) := ⟨rfl, rfl, rfl, by decide +kernel, rfl, by decide +kernel, by decide +kernel⟩
/-! Letters.__eq__ -/
abbrev s_Letters___eq__ : Stmt := inClass (topS 17) 2
theorem sc_Letters___eq__ : FnScope n_Letters___eq__ ["self", "other"] (defScope s_Letters___eq__) := ⟨rfl, rfl, rfl, by decide +kernel, rfl, by decide +kernel, by decide +kernel⟩
/-! Letters.has -/
abbrev s_Letters_has : Stmt := inClass (topS 17) 5
theorem sc_Letters_has : FnScope n_Letters_has ["self", "thing"] (defScope s_Letters_has) := ⟨rfl, rfl, rfl, by decide +kernel, rfl, by decide +kernel, by decide +kernel⟩
/-! Letters.rank -/
abbrev s_Letters_rank : Stmt := inClass (topS 17) 6
theorem sc_Letters_rank : FnScope n_Letters_rank ["self", "name"] (defScope s_Letters_rank) := ⟨rfl, rfl, rfl, by decide +kernel, rfl, by decide +kernel, by decide +kernel⟩
/-! rising -/
abbrev s_rising : Stmt := topS 18
theorem sc_rising : FnScope n_rising ["counts"] (defScope s_rising) := ⟨rfl, rfl, rfl, by decide +kernel, rfl, by decide +kernel, by decide +kernel⟩
/-! need_many -/
abbrev s_need_many : Stmt := topS 22
theorem sc_need_many : FnScope n_need_many ["thing", "most"] (defScope s_need_many) := ⟨rfl, rfl, rfl, by decide +kernel, rfl, by decide +kernel, by decide +kernel⟩
/-! Jars.__init__ -/
abbrev s_Jars___init__ : Stmt := inClass (topS 23) 0
theorem sc_Jars___init__ : FnScope n_Jars___init__ ["self", "letters", "many"] (defScope s_Jars___init__) := ⟨rfl, rfl, rfl, by decide +kernel, rfl, by decide +kernel, by decide +kernel⟩
/-! Marks.__init__ -/
abbrev s_Marks___init__ : Stmt := inClass (topS 25) 0
theorem sc_Marks___init__ : FnScope n_Marks___init__ ["self", "letters", "many"] (defScope s_Marks___init__) := ⟨rfl, rfl, rfl, by decide +kernel, rfl, by decide +kernel, by decide +kernel⟩
/-! Marks.kept -/
abbrev s_Marks_kept : Stmt := inClass (topS 25) 4
theorem sc_Marks_kept : FnScope n_Marks_kept ["self"] (defScope s_Marks_kept) := ⟨rfl, rfl, rfl, by decide +kernel, rfl, by decide +kernel, by decide +kernel⟩
/-! Marks.many -/
abbrev s_Marks_many : Stmt := inClass (topS 25) 3
theorem sc_Marks_many : FnScope n_Marks_many ["self"] (defScope s_Marks_many) := ⟨rfl, rfl, rfl, by decide +kernel, rfl, by decide +kernel, by decide +kernel⟩
/-! Marks.letters -/
abbrev s_Marks_letters : Stmt := inClass (topS 25) 2
theorem sc_Marks_letters : FnScope n_Marks_letters ["self"] (defScope s_Marks_letters) := ⟨rfl, rfl, rfl, by decide +kernel, rfl, by decide +kernel, by decide +kernel⟩
/-! Marks.__eq__ -/
abbrev s_Marks___eq__ : Stmt := inClass (topS 25) 1
theorem sc_Marks___eq__ : FnScope n_Marks___eq__ ["self", "other"] (defScope s_Marks___eq__) := ⟨rfl, rfl, rfl, by decide +kernel, rfl, by decide +kernel, by decide +kernel⟩
/-! Marks.full -/
abbrev s_Marks_full : Stmt := inClass (topS 25) 5
theorem sc_Marks_full : FnScope n_Marks_full ["self"] (defScope s_Marks_full) := ⟨rfl, rfl, rfl, by decide +kernel, rfl, by decide +kernel, by decide +kernel⟩
/-! Marks.keep -/
abbrev s_Marks_keep : Stmt := inClass (topS 25) 7
theorem sc_Marks_keep : FnScope n_Marks_keep ["self", "names"] (defScope s_Marks_keep) := ⟨rfl, rfl, rfl, by decide +kernel, rfl, by decide +kernel, by decide +kernel⟩
/-! Marks.meet -/
abbrev s_Marks_meet : Stmt := inClass (topS 25) 6
theorem sc_Marks_meet : FnScope n_Marks_meet ["self", "letter"] (defScope s_Marks_meet) := ⟨rfl, rfl, rfl, by decide +kernel, rfl, by decide +kernel, by decide +kernel⟩
/-! Marks.made_smaller -/
abbrev s_Marks_made_smaller : Stmt := inClass (topS 25) 8
theorem sc_Marks_made_smaller : FnScope n_Marks_made_smaller ["self", "many"] (defScope s_Marks_made_smaller) := ⟨rfl, rfl, rfl, by decide +kernel, rfl, by decide +kernel, by decide +kernel⟩
/-! Marks.pour -/
abbrev s_Marks_pour : Stmt := inClass (topS 25) 9
theorem sc_Marks_pour : FnScope n_Marks_pour ["self", "other"] (defScope s_Marks_pour) := ⟨rfl, rfl, rfl, by decide +kernel, rfl, by decide +kernel, by decide +kernel⟩
/-! Marks.twin -/
abbrev s_Marks_twin : Stmt := inClass (topS 25) 10
theorem sc_Marks_twin : FnScope n_Marks_twin ["self"] (defScope s_Marks_twin) := ⟨rfl, rfl, rfl, by decide +kernel, rfl, by decide +kernel, by decide +kernel⟩
/-! _law_begun -/
abbrev s__law_begun : Stmt := topS 27
theorem sc__law_begun : FnScope n__law_begun ["_law_script"] (defScope s__law_begun) := ⟨rfl, rfl, rfl, by decide +kernel, rfl, by decide +kernel, by decide +kernel⟩
/-! _law_draw -/
abbrev s__law_draw : Stmt := topS 28
theorem sc__law_draw : FnScope n__law_draw ["_law_state", "_law_size_of"] (defScope s__law_draw) := ⟨rfl, rfl, rfl, by decide +kernel, rfl, by decide +kernel, by decide +kernel⟩
/-! _law_alphabet -/
abbrev s__law_alphabet : Stmt := topS 29
theorem sc__law_alphabet : FnScope n__law_alphabet ["_law_state", "_law_low", "_law_high"] (defScope s__law_alphabet) := ⟨rfl, rfl, rfl, by decide +kernel, rfl, by decide +kernel, by decide +kernel⟩
/-! _law_least -/
abbrev s__law_least : Stmt := topS 30
theorem sc__law_least : FnScope n__law_least ["_law_alphabet_here", "_law_met", "_law_wide"] (defScope s__law_least) := ⟨rfl, rfl, rfl, by decide +kernel, rfl, by decide +kernel, by decide +kernel⟩
/-! _law_word -/
abbrev s__law_word : Stmt := topS 31
theorem sc__law_word : FnScope n__law_word ["_law_error"] (defScope s__law_word) := ⟨rfl, rfl, rfl, by decide +kernel, rfl, by decide +kernel, by decide +kernel⟩
abbrev n__law_refused : List Str := ["_law_work", "_law_error", "e"]
/-! _law_refused -/
abbrev s__law_refused : Stmt := topS 32
theorem sc__law_refused : FnScope n__law_refused ["_law_work"] (defScope s__law_refused) := ⟨rfl, rfl, rfl, by decide +kernel, rfl, by decide +kernel, by decide +kernel⟩
/-! _law_stands -/
abbrev s__law_stands : Stmt := topS 33
theorem sc__law_stands : FnScope n__law_stands ["_law_mark", "_law_alphabet_here", "_law_plain"] (defScope s__law_stands) := ⟨rfl, rfl, rfl, by decide +kernel, rfl, by decide +kernel, by decide +kernel⟩
/-! _law_turn -/
abbrev s__law_turn : Stmt := topS 34
theorem sc__law_turn : FnScope n__law_turn ["_law_state", "_law_marks_of", "_law_plains", "_law_alphabet_here"] (defScope s__law_turn) := ⟨rfl, rfl, rfl, by decide +kernel, rfl, by decide +kernel, by decide +kernel⟩
/-! _law_refused_poured -/
abbrev s__law_refused_poured : Stmt := topS 37
theorem sc__law_refused_poured : FnScope n__law_refused_poured ["_law_mark", "_law_other"] (defScope s__law_refused_poured) := ⟨rfl, rfl, rfl, by decide +kernel, rfl, by decide +kernel, by decide +kernel⟩
/-! _law_refused_first -/
abbrev s__law_refused_first : Stmt := topS 36
theorem sc__law_refused_first : FnScope n__law_refused_first ["_law_alphabet_here", "_law_number"] (defScope s__law_refused_first) := ⟨rfl, rfl, rfl, by decide +kernel, rfl, by decide +kernel, by decide +kernel⟩
/-! _law_refused_right -/
abbrev s__law_refused_right : Stmt := topS 35
theorem sc__law_refused_right : FnScope n__law_refused_right ["_law_state", "_law_mark", "_law_alphabet_here", "_law_wide"] (defScope s__law_refused_right) := ⟨rfl, rfl, rfl, by decide +kernel, rfl, by decide +kernel, by decide +kernel⟩
/-! law -/
abbrev s_law : Stmt := topS 38
theorem sc_law : FnScope n_law ["_law_script"] (defScope s_law) := ⟨rfl, rfl, rfl, by decide +kernel, rfl, by decide +kernel, by decide +kernel⟩

structure Tx (K : Fg) (mg : Str → Option Value) where
  m_isinstance : mg "isinstance" = none
  m_int : mg "int" = none
  m_bool : mg "bool" = none
  m_str : mg "str" = none
  m_len : mg "len" = none
  m_all : mg "all" = none
  m_list : mg "list" = none
  m_tuple : mg "tuple" = none
  m_set : mg "set" = none
  m_enumerate : mg "enumerate" = none
  m_sorted : mg "sorted" = none
  m_min : mg "min" = none
  m_abs : mg "abs" = none
  m_range : mg "range" = none
  m_ValueError : mg "ValueError" = none
  m_repr : mg "repr" = none
  m_max : mg "max" = none
  m_zip : mg "zip" = none
  f_NoLetter___init__ : Addr
  d_NoLetter___init__ : FuncData
  F_NoLetter___init__ : Fun K "__init__" "NoLetter.__init__" s_NoLetter___init__ f_NoLetter___init__ d_NoLetter___init__
  b_NoLetter___init__ : Binds K d_NoLetter___init__ ["self", "name"] []
  f_is_whole : Addr
  d_is_whole : FuncData
  F_is_whole : Fun K "is_whole" "is_whole" s_is_whole f_is_whole d_is_whole
  b_is_whole : Binds K d_is_whole ["thing"] []
  g_is_whole : mg "is_whole" = some (.ref f_is_whole)
  f_is_letter : Addr
  d_is_letter : FuncData
  F_is_letter : Fun K "is_letter" "is_letter" s_is_letter f_is_letter d_is_letter
  b_is_letter : Binds K d_is_letter ["thing"] []
  g_is_letter : mg "is_letter" = some (.ref f_is_letter)
  f_Letters___init__ : Addr
  d_Letters___init__ : FuncData
  F_Letters___init__ : Fun K "__init__" "Letters.__init__" s_Letters___init__ f_Letters___init__ d_Letters___init__
  b_Letters___init__ : Binds K d_Letters___init__ ["self", "names"] []
  f_Letters_ranked : Addr
  d_Letters_ranked : FuncData
  F_Letters_ranked : Fun K "ranked" "Letters.ranked" s_Letters_ranked f_Letters_ranked d_Letters_ranked
  b_Letters_ranked : Binds K d_Letters_ranked ["self"] []
  f_Letters___eq__ : Addr
  d_Letters___eq__ : FuncData
  F_Letters___eq__ : Fun K "__eq__" "Letters.__eq__" s_Letters___eq__ f_Letters___eq__ d_Letters___eq__
  b_Letters___eq__ : Binds K d_Letters___eq__ ["self", "other"] []
  f_Letters_has : Addr
  d_Letters_has : FuncData
  F_Letters_has : Fun K "has" "Letters.has" s_Letters_has f_Letters_has d_Letters_has
  b_Letters_has : Binds K d_Letters_has ["self", "thing"] []
  f_Letters_rank : Addr
  d_Letters_rank : FuncData
  F_Letters_rank : Fun K "rank" "Letters.rank" s_Letters_rank f_Letters_rank d_Letters_rank
  b_Letters_rank : Binds K d_Letters_rank ["self", "name"] []
  f_rising : Addr
  d_rising : FuncData
  F_rising : Fun K "rising" "rising" s_rising f_rising d_rising
  b_rising : Binds K d_rising ["counts"] []
  g_rising : mg "rising" = some (.ref f_rising)
  f_need_many : Addr
  d_need_many : FuncData
  F_need_many : Fun K "need_many" "need_many" s_need_many f_need_many d_need_many
  b_need_many : Binds K d_need_many ["thing", "most"] []
  g_need_many : mg "need_many" = some (.ref f_need_many)
  f_Jars___init__ : Addr
  d_Jars___init__ : FuncData
  F_Jars___init__ : Fun K "__init__" "Jars.__init__" s_Jars___init__ f_Jars___init__ d_Jars___init__
  b_Jars___init__ : Binds K d_Jars___init__ ["self", "letters", "many"] []
  f_Marks___init__ : Addr
  d_Marks___init__ : FuncData
  F_Marks___init__ : Fun K "__init__" "Marks.__init__" s_Marks___init__ f_Marks___init__ d_Marks___init__
  b_Marks___init__ : Binds K d_Marks___init__ ["self", "letters", "many"] []
  f_Marks_kept : Addr
  d_Marks_kept : FuncData
  F_Marks_kept : Fun K "kept" "Marks.kept" s_Marks_kept f_Marks_kept d_Marks_kept
  b_Marks_kept : Binds K d_Marks_kept ["self"] []
  f_Marks_many : Addr
  d_Marks_many : FuncData
  F_Marks_many : Fun K "many" "Marks.many" s_Marks_many f_Marks_many d_Marks_many
  b_Marks_many : Binds K d_Marks_many ["self"] []
  f_Marks_letters : Addr
  d_Marks_letters : FuncData
  F_Marks_letters : Fun K "letters" "Marks.letters" s_Marks_letters f_Marks_letters d_Marks_letters
  b_Marks_letters : Binds K d_Marks_letters ["self"] []
  f_Marks___eq__ : Addr
  d_Marks___eq__ : FuncData
  F_Marks___eq__ : Fun K "__eq__" "Marks.__eq__" s_Marks___eq__ f_Marks___eq__ d_Marks___eq__
  b_Marks___eq__ : Binds K d_Marks___eq__ ["self", "other"] []
  f_Marks_full : Addr
  d_Marks_full : FuncData
  F_Marks_full : Fun K "full" "Marks.full" s_Marks_full f_Marks_full d_Marks_full
  b_Marks_full : Binds K d_Marks_full ["self"] []
  f_Marks_keep : Addr
  d_Marks_keep : FuncData
  F_Marks_keep : Fun K "keep" "Marks.keep" s_Marks_keep f_Marks_keep d_Marks_keep
  b_Marks_keep : Binds K d_Marks_keep ["self", "names"] []
  f_Marks_meet : Addr
  d_Marks_meet : FuncData
  F_Marks_meet : Fun K "meet" "Marks.meet" s_Marks_meet f_Marks_meet d_Marks_meet
  b_Marks_meet : Binds K d_Marks_meet ["self", "letter"] []
  f_Marks_made_smaller : Addr
  d_Marks_made_smaller : FuncData
  F_Marks_made_smaller : Fun K "made_smaller" "Marks.made_smaller" s_Marks_made_smaller f_Marks_made_smaller d_Marks_made_smaller
  b_Marks_made_smaller : Binds K d_Marks_made_smaller ["self", "many"] []
  f_Marks_pour : Addr
  d_Marks_pour : FuncData
  F_Marks_pour : Fun K "pour" "Marks.pour" s_Marks_pour f_Marks_pour d_Marks_pour
  b_Marks_pour : Binds K d_Marks_pour ["self", "other"] []
  f_Marks_twin : Addr
  d_Marks_twin : FuncData
  F_Marks_twin : Fun K "twin" "Marks.twin" s_Marks_twin f_Marks_twin d_Marks_twin
  b_Marks_twin : Binds K d_Marks_twin ["self"] []
  f__law_begun : Addr
  d__law_begun : FuncData
  F__law_begun : Fun K "_law_begun" "_law_begun" s__law_begun f__law_begun d__law_begun
  b__law_begun : Binds K d__law_begun ["_law_script"] []
  g__law_begun : mg "_law_begun" = some (.ref f__law_begun)
  f__law_draw : Addr
  d__law_draw : FuncData
  F__law_draw : Fun K "_law_draw" "_law_draw" s__law_draw f__law_draw d__law_draw
  b__law_draw : Binds K d__law_draw ["_law_state", "_law_size_of"] []
  g__law_draw : mg "_law_draw" = some (.ref f__law_draw)
  f__law_alphabet : Addr
  d__law_alphabet : FuncData
  F__law_alphabet : Fun K "_law_alphabet" "_law_alphabet" s__law_alphabet f__law_alphabet d__law_alphabet
  b__law_alphabet : Binds K d__law_alphabet ["_law_state", "_law_low", "_law_high"] []
  g__law_alphabet : mg "_law_alphabet" = some (.ref f__law_alphabet)
  f__law_least : Addr
  d__law_least : FuncData
  F__law_least : Fun K "_law_least" "_law_least" s__law_least f__law_least d__law_least
  b__law_least : Binds K d__law_least ["_law_alphabet_here", "_law_met", "_law_wide"] []
  g__law_least : mg "_law_least" = some (.ref f__law_least)
  f__law_word : Addr
  d__law_word : FuncData
  F__law_word : Fun K "_law_word" "_law_word" s__law_word f__law_word d__law_word
  b__law_word : Binds K d__law_word ["_law_error"] []
  g__law_word : mg "_law_word" = some (.ref f__law_word)
  f__law_refused : Addr
  d__law_refused : FuncData
  F__law_refused : Fun K "_law_refused" "_law_refused" s__law_refused f__law_refused d__law_refused
  b__law_refused : Binds K d__law_refused ["_law_work"] []
  g__law_refused : mg "_law_refused" = some (.ref f__law_refused)
  f__law_stands : Addr
  d__law_stands : FuncData
  F__law_stands : Fun K "_law_stands" "_law_stands" s__law_stands f__law_stands d__law_stands
  b__law_stands : Binds K d__law_stands ["_law_mark", "_law_alphabet_here", "_law_plain"] []
  g__law_stands : mg "_law_stands" = some (.ref f__law_stands)
  f__law_turn : Addr
  d__law_turn : FuncData
  F__law_turn : Fun K "_law_turn" "_law_turn" s__law_turn f__law_turn d__law_turn
  b__law_turn : Binds K d__law_turn ["_law_state", "_law_marks_of", "_law_plains", "_law_alphabet_here"] []
  g__law_turn : mg "_law_turn" = some (.ref f__law_turn)
  f__law_refused_poured : Addr
  d__law_refused_poured : FuncData
  F__law_refused_poured : FunC K "_law_refused_poured" "_law_refused_poured" s__law_refused_poured f__law_refused_poured d__law_refused_poured (tabC K "_law_refused_poured")
  b__law_refused_poured : Binds K d__law_refused_poured ["_law_mark", "_law_other"] []
  g__law_refused_poured : mg "_law_refused_poured" = some (.ref f__law_refused_poured)
  f__law_refused_first : Addr
  d__law_refused_first : FuncData
  F__law_refused_first : FunC K "_law_refused_first" "_law_refused_first" s__law_refused_first f__law_refused_first d__law_refused_first (tabC K "_law_refused_first")
  b__law_refused_first : Binds K d__law_refused_first ["_law_alphabet_here", "_law_number"] []
  g__law_refused_first : mg "_law_refused_first" = some (.ref f__law_refused_first)
  f__law_refused_right : Addr
  d__law_refused_right : FuncData
  F__law_refused_right : FunC K "_law_refused_right" "_law_refused_right" s__law_refused_right f__law_refused_right d__law_refused_right (tabC K "_law_refused_right")
  b__law_refused_right : Binds K d__law_refused_right ["_law_state", "_law_mark", "_law_alphabet_here", "_law_wide"] []
  g__law_refused_right : mg "_law_refused_right" = some (.ref f__law_refused_right)
  f_law : Addr
  d_law : FuncData
  F_law : Fun K "law" "law" s_law f_law d_law
  c_Letters : Addr
  g_Letters : mg "Letters" = some (.ref c_Letters)
  rc_Letters : LettersC K c_Letters
  K_Letters : Mk K c_Letters f_Letters___init__
  M_Letters___eq__ : Meth K c_Letters "__eq__" f_Letters___eq__
  M_Letters_ranked : Meth K c_Letters "ranked" f_Letters_ranked
  M_Letters_has : Meth K c_Letters "has" f_Letters_has
  M_Letters_rank : Meth K c_Letters "rank" f_Letters_rank
  c_Jars : Addr
  g_Jars : mg "Jars" = some (.ref c_Jars)
  rc_Jars : JarsC K c_Jars
  K_Jars : Mk K c_Jars f_Jars___init__
  c_Marks : Addr
  g_Marks : mg "Marks" = some (.ref c_Marks)
  rc_Marks : MarksC K c_Marks
  K_Marks : Mk K c_Marks f_Marks___init__
  M_Marks___eq__ : Meth K c_Marks "__eq__" f_Marks___eq__
  M_Marks_letters : Meth K c_Marks "letters" f_Marks_letters
  M_Marks_many : Meth K c_Marks "many" f_Marks_many
  M_Marks_kept : Meth K c_Marks "kept" f_Marks_kept
  M_Marks_full : Meth K c_Marks "full" f_Marks_full
  M_Marks_meet : Meth K c_Marks "meet" f_Marks_meet
  M_Marks_keep : Meth K c_Marks "keep" f_Marks_keep
  M_Marks_made_smaller : Meth K c_Marks "made_smaller" f_Marks_made_smaller
  M_Marks_pour : Meth K c_Marks "pour" f_Marks_pour
  M_Marks_twin : Meth K c_Marks "twin" f_Marks_twin
  g_LeftError : mg "LeftError" = some (.ref (cErr K "LeftError"))
  g_NoCount : mg "NoCount" = some (.ref (cErr K "NoCount"))
  g_NoDeed : mg "NoDeed" = some (.ref (cErr K "NoDeed"))
  g_NoFeed : mg "NoFeed" = some (.ref (cErr K "NoFeed"))
  g_NoKeeper : mg "NoKeeper" = some (.ref (cErr K "NoKeeper"))
  g_NoLetter : mg "NoLetter" = some (.ref (cErr K "NoLetter"))
  g_NoLetters : mg "NoLetters" = some (.ref (cErr K "NoLetters"))
  g_NoMany : mg "NoMany" = some (.ref (cErr K "NoMany"))
  g_NoName : mg "NoName" = some (.ref (cErr K "NoName"))
  g_NoNumber : mg "NoNumber" = some (.ref (cErr K "NoNumber"))
  g_NoPast : mg "NoPast" = some (.ref (cErr K "NoPast"))
  g_NoTally : mg "NoTally" = some (.ref (cErr K "NoTally"))
  g_NoTimes : mg "NoTimes" = some (.ref (cErr K "NoTimes"))
  rc_NoKeeper : BX.ErrC K (cErr K "NoKeeper")
  rc_NoMany : BX.ErrC K (cErr K "NoMany")
  wd__law_refused_first__law_refused_poured : tabP K "_law_refused_first" ≠ tabP K "_law_refused_poured"
  wd__law_refused_first__law_refused_right : tabP K "_law_refused_first" ≠ tabP K "_law_refused_right"
  wd__law_refused_poured__law_refused_right : tabP K "_law_refused_poured" ≠ tabP K "_law_refused_right"
  ri_NoLetter : OexC K (cErr K "NoLetter")
  ii_NoLetter : PySem.W.findIn K (.ref (cErr K "NoLetter")) "__init__" = some (some (.ref f_NoLetter___init__))
  ti_NoLetter : PySem.W.typeIn K (.ref f_NoLetter___init__) = some (.type "function")
  xo_NoLetter_name : PySem.W.findIn K (.ref (cErr K "NoLetter")) "name" = some none
  rf_NoMany : Refd K "NoMany"
  rf_NoLetter : Refd K "NoLetter"
  rf_NoKeeper : Refd K "NoKeeper"
  nk_Marks : NotMk K c_Letters c_Jars c_Marks
  ns_Marks : NotMs K c_Jars c_Marks
  u_MOST_JARS : Tok
  h_MOST_JARS : mg "MOST_JARS" = some (.int 8 u_MOST_JARS)
  ne_Letters : PySem.W.findIn K (.ref c_Letters) "__ne__" = some (some (.builtin "object.__ne__"))
  ne_Marks : PySem.W.findIn K (.ref c_Marks) "__ne__" = some (some (.builtin "object.__ne__"))
  kn_Marks___init___1_letters_many : ∃ g, KBn K d_Marks___init__ ["self", "letters", "many"] 1 ["letters", "many"] g (fun vs zs => vs ++ perm [0, 1] zs)
  km_Marks_meet_letter : KwM K d_Marks_meet ["self", "letter"] ["letter"] [0]

section
variable {P : Program} {w : World} {K : Fg} {mg : Str → Option Value} {base : Heap}
theorem Tx.cl_Letters (T : Tx K mg) : Cls K T.c_Letters := T.rc_Letters.i.cl
theorem Tx.cl_Jars (T : Tx K mg) : Cls K T.c_Jars := T.rc_Jars.i.cl
theorem Tx.cl_Marks (T : Tx K mg) : Cls K T.c_Marks := T.rc_Marks.i.cl
theorem der_NoLetter___init__ (T : Tx K mg) {cdv : Value} {A : Around} {outer : List Env} {s : Shared} {H : Hp} {E : XK} (hr : Room 0 (A.deeper (envOfC "NoLetter.__init__" (defScope s_NoLetter___init__) s.heap.objs.size T.f_NoLetter___init__ cdv))) :
    PSs (cxOf CX0 P w K mg base n_NoLetter___init__ "NoLetter.__init__" (defScope s_NoLetter___init__) T.f_NoLetter___init__ cdv A outer s H E).nox (defBody s_NoLetter___init__) (t_NoLetter___init__ K) :=
  have nd := sc_NoLetter___init__.nd
  (pss_one (ps_ost (pv 0) (pv 1)))
theorem ok_NoLetter___init__ (T : Tx K mg) : FnOk P w K mg base CX0 1 T.f_NoLetter___init__ T.d_NoLetter___init__ ["self", "name"] (sp_NoLetter___init__ K) :=
  T.F_NoLetter___init__.ok sc_NoLetter___init__ (fun vs H Q E h => len_NoLetter___init__ h) (fun cdv A outer s H vs Q E hr h => ⟨t_NoLetter___init__ K, der_NoLetter___init__ T hr, rd_NoLetter___init__ T.ri_NoLetter T.xo_NoLetter_name h⟩)
theorem der_is_whole (T : Tx K mg) {cdv : Value} {A : Around} {outer : List Env} {s : Shared} {H : Hp} {E : XK} (hr : Room 0 (A.deeper (envOfC "is_whole" (defScope s_is_whole) s.heap.objs.size T.f_is_whole cdv))) :
    PSs (cxOf CX0 P w K mg base n_is_whole "is_whole" (defScope s_is_whole) T.f_is_whole cdv A outer s H E).nox (defBody s_is_whole) (t_is_whole K) :=
  have nd := sc_is_whole.nd
  (pss_one (ps_ret (pe_and (pe_callB call_isi (by rfl) T.m_isinstance (by decide +kernel) (pa_cons (pv 0) (pa_cons (pe_bltn (by rfl) T.m_int (by decide +kernel) rfl) pa_nil))) (pe_one (pe_not (pe_callB call_isi (by rfl) T.m_isinstance (by decide +kernel) (pa_cons (pv 0) (pa_cons (pe_bltn (by rfl) T.m_bool (by decide +kernel) rfl) pa_nil))))))))
theorem ok_is_whole (T : Tx K mg) : FnOk P w K mg base CX0 1 T.f_is_whole T.d_is_whole ["thing"] (sp_is_whole K) :=
  T.F_is_whole.ok sc_is_whole (fun vs H Q E h => len_is_whole h) (fun cdv A outer s H vs Q E hr h => ⟨t_is_whole K, der_is_whole T hr, rd_is_whole h⟩)
theorem der_is_letter (T : Tx K mg) {cdv : Value} {A : Around} {outer : List Env} {s : Shared} {H : Hp} {E : XK} (hr : Room 0 (A.deeper (envOfC "is_letter" (defScope s_is_letter) s.heap.objs.size T.f_is_letter cdv))) :
    PSs (cxOf CX0 P w K mg base n_is_letter "is_letter" (defScope s_is_letter) T.f_is_letter cdv A outer s H E).nox (defBody s_is_letter) (t_is_letter K) :=
  have nd := sc_is_letter.nd
  (pss_cons (ps_if (PW.pt (pw_or (pt_not (pt_val (pe_callB call_isi (by rfl) T.m_isinstance (by decide +kernel) (pa_cons (pv 0) (pa_cons (pe_bltn (by rfl) T.m_str (by decide +kernel) rfl) pa_nil))))) (pw_or1 (pt_not (pt_chain op_le op_le pe_int (pe_callB cr_lenS (by rfl) T.m_len (by decide +kernel) (pa_cons (pv 0) pa_nil)) pe_int))))) (pss_one (ps_ret pe_bl)) pss_nil)
  (pss_one (ps_ret (pe_callB (cr_all rfl) (by rfl) T.m_all (by decide +kernel) (pa_cons (pe_lc (own := [("sign", 1)]) rfl nd (pi_str (pv 0)) (blkOk_by (own := [("sign", 1)]) (N := n_is_letter) (sc := defScope s_is_letter) (by decide +kernel)) (fun _ _ _ _ _ => (pg_name (i := 1) nd rfl (by first | exact Or.inl rfl | exact Or.inr rfl))) (fun _ _ _ _ _ => pts_nil) (fun _ _ _ _ _ => (pe_cmpR op_in_str (pv 1) pe_str rfl))) pa_nil)))))
theorem ok_is_letter (T : Tx K mg) : FnOk P w K mg base CX0 1 T.f_is_letter T.d_is_letter ["thing"] (sp_is_letter K) :=
  T.F_is_letter.ok sc_is_letter (fun vs H Q E h => len_is_letter h) (fun cdv A outer s H vs Q E hr h => ⟨t_is_letter K, der_is_letter T hr, rd_is_letter h⟩)
theorem der_Letters___init__ (T : Tx K mg) {cdv : Value} {A : Around} {outer : List Env} {s : Shared} {H : Hp} {E : XK} (hr : Room 1 (A.deeper (envOfC "Letters.__init__" (defScope s_Letters___init__) s.heap.objs.size T.f_Letters___init__ cdv))) :
    PSs (cxOf CX0 P w K mg base n_Letters___init__ "Letters.__init__" (defScope s_Letters___init__) T.f_Letters___init__ cdv A outer s H E).nox (defBody s_Letters___init__) (t_Letters___init__ K T.c_Letters) :=
  have nd := sc_Letters___init__.nd
  (pss_cons (ps_if (PW.pt (pw_or (pt_not (pt_val (pe_callB call_isiT (by rfl) T.m_isinstance (by decide +kernel) (pa_cons (pv 1) (pa_cons (pe_tup (pa_cons (pe_bltn (by rfl) T.m_list (by decide +kernel) rfl) (pa_cons (pe_bltn (by rfl) T.m_tuple (by decide +kernel) rfl) pa_nil))) pa_nil))))) (pw_or1 (pt_not (pt_chain op_le op_le pe_int (pe_callB cr_len (by rfl) T.m_len (by decide +kernel) (pa_cons (pv 1) pa_nil)) pe_int))))) (pss_one ps_never) pss_nil)
  (pss_cons (ps_if (PW.pt (pw_or (pt_not (pt_val (pe_callB (cr_all rfl) (by rfl) T.m_all (by decide +kernel) (pa_cons (pe_lc (own := [("name", 2)]) rfl nd (pi_list (pv 1)) (blkOk_by (own := [("name", 2)]) (N := n_Letters___init__) (sc := defScope s_Letters___init__) (by decide +kernel)) (fun _ _ _ _ _ => (pg_name (i := 2) nd rfl (by first | exact Or.inl rfl | exact Or.inr rfl))) (fun _ _ _ _ _ => pts_nil) (fun _ _ _ _ _ => (pe_call (ok_is_letter T) (hr.mono (by decide)) (by rfl) T.g_is_letter T.F_is_letter.kp T.b_is_letter .nil pass0 (pa_cons (pv 2) pa_nil)))) pa_nil)))) (pw_or1 (pt_cmpR op_lt (BY.pe_lenSetS (by rfl) T.m_len (by rfl) T.m_set (pv 1)) (pe_callB cr_len (by rfl) T.m_len (by decide +kernel) (pa_cons (pv 1) pa_nil)) (nomark _))))) (pss_one ps_never) pss_nil)
  (pss_one (ps_fld (pv 0) (pe_dc (own := [("at", 3), ("name", 2)]) rfl nd (pi_enum rfl T.m_enumerate (pa_cons (pv 1) pa_nil)) (blkOk_by (own := [("at", 3), ("name", 2)]) (N := n_Letters___init__) (sc := defScope s_Letters___init__) (by decide +kernel)) (fun _ _ _ _ _ => (pg_tup rfl (pgs_cons (pg_name (i := 3) nd rfl (by first | exact Or.inl rfl | exact Or.inr rfl)) (pgs_cons (pg_name (i := 2) nd rfl (by first | exact Or.inl rfl | exact Or.inr rfl)) pgs_nil)))) (fun _ _ _ _ _ => pts_nil) (fun _ _ _ _ _ => (pv 2)) (fun _ _ _ _ _ => (pv 3))) rfl))))
theorem ok_Letters___init__ (T : Tx K mg) : FnOk P w K mg base CX0 2 T.f_Letters___init__ T.d_Letters___init__ ["self", "names"] (sp_Letters___init__ K T.c_Letters) :=
  T.F_Letters___init__.ok sc_Letters___init__ (fun vs H Q E h => len_Letters___init__ h) (fun cdv A outer s H vs Q E hr h => ⟨t_Letters___init__ K T.c_Letters, der_Letters___init__ T hr, rd_Letters___init__ T.rc_Letters h⟩)
theorem der_Letters_ranked (T : Tx K mg) {cdv : Value} {A : Around} {outer : List Env} {s : Shared} {H : Hp} {E : XK} (hr : Room 0 (A.deeper (envOfC "Letters.ranked" (defScope s_Letters_ranked) s.heap.objs.size T.f_Letters_ranked cdv))) :
    PSs (cxOf CX0 P w K mg base n_Letters_ranked "Letters.ranked" (defScope s_Letters_ranked) T.f_Letters_ranked cdv A outer s H E).nox (defBody s_Letters_ranked) (t_Letters_ranked K T.c_Letters) :=
  have nd := sc_Letters_ranked.nd
  (pss_one (ps_ret (pe_callTy (call_list_dK rfl) (by rfl) T.m_list (by decide +kernel) (pa_cons (pe_fld (pv 0) rfl) pa_nil))))
theorem ok_Letters_ranked (T : Tx K mg) : FnOk P w K mg base CX0 1 T.f_Letters_ranked T.d_Letters_ranked ["self"] (sp_Letters_ranked K T.c_Letters) :=
  T.F_Letters_ranked.ok sc_Letters_ranked (fun vs H Q E h => len_Letters_ranked h) (fun cdv A outer s H vs Q E hr h => ⟨t_Letters_ranked K T.c_Letters, der_Letters_ranked T hr, rd_Letters_ranked T.rc_Letters h⟩)
theorem der_Letters___eq__ (T : Tx K mg) {cdv : Value} {A : Around} {outer : List Env} {s : Shared} {H : Hp} {E : XK} (hr : Room 1 (A.deeper (envOfC "Letters.__eq__" (defScope s_Letters___eq__) s.heap.objs.size T.f_Letters___eq__ cdv))) :
    PSs (cxOf CX0 P w K mg base n_Letters___eq__ "Letters.__eq__" (defScope s_Letters___eq__) T.f_Letters___eq__ cdv A outer s H E).nox (defBody s_Letters___eq__) (t_Letters___eq__ K T.c_Letters) :=
  have nd := sc_Letters___eq__.nd
  (pss_one (ps_ret (pe_and (pe_callB call_isi (by rfl) T.m_isinstance (by decide +kernel) (pa_cons (pv 1) (pa_cons (pe_glob (by rfl) T.g_Letters rfl) pa_nil))) (pe_one (pe_cmpR (op_eqT hr.units) (pe_meth0 (pv 0) T.cl_Letters T.M_Letters_ranked (ok_Letters_ranked T) (hr.mono (by decide)) T.b_Letters_ranked .nil pass0) (pe_meth0 (pv 1) T.cl_Letters T.M_Letters_ranked (ok_Letters_ranked T) (hr.mono (by decide)) T.b_Letters_ranked .nil pass0) (nomark _))))))
theorem ok_Letters___eq__ (T : Tx K mg) : FnOk P w K mg base CX0 2 T.f_Letters___eq__ T.d_Letters___eq__ ["self", "other"] (sp_Letters___eq__ K T.c_Letters) :=
  T.F_Letters___eq__.ok sc_Letters___eq__ (fun vs H Q E h => len_Letters___eq__ h) (fun cdv A outer s H vs Q E hr h => ⟨t_Letters___eq__ K T.c_Letters, der_Letters___eq__ T hr, rd_Letters___eq__ T.rc_Letters h⟩)
theorem der_Letters_has (T : Tx K mg) {cdv : Value} {A : Around} {outer : List Env} {s : Shared} {H : Hp} {E : XK} (hr : Room 1 (A.deeper (envOfC "Letters.has" (defScope s_Letters_has) s.heap.objs.size T.f_Letters_has cdv))) :
    PSs (cxOf CX0 P w K mg base n_Letters_has "Letters.has" (defScope s_Letters_has) T.f_Letters_has cdv A outer s H E).nox (defBody s_Letters_has) (t_Letters_has K T.c_Letters) :=
  have nd := sc_Letters_has.nd
  (pss_one (ps_ret (pe_and (pe_call (ok_is_letter T) (hr.mono (by decide)) (by rfl) T.g_is_letter T.F_is_letter.kp T.b_is_letter .nil pass0 (pa_cons (pv 1) pa_nil)) (pe_one (pe_cmp (pc_din (hu_of hr) (pv 1) (pe_fld (pv 0) rfl)))))))
theorem ok_Letters_has (T : Tx K mg) : FnOk P w K mg base CX0 2 T.f_Letters_has T.d_Letters_has ["self", "thing"] (sp_Letters_has K T.c_Letters) :=
  T.F_Letters_has.ok sc_Letters_has (fun vs H Q E h => len_Letters_has h) (fun cdv A outer s H vs Q E hr h => ⟨t_Letters_has K T.c_Letters, der_Letters_has T hr, rd_Letters_has T.rc_Letters h⟩)
theorem der_Letters_rank (T : Tx K mg) {cdv : Value} {A : Around} {outer : List Env} {s : Shared} {H : Hp} {E : XK} (hr : Room 2 (A.deeper (envOfC "Letters.rank" (defScope s_Letters_rank) s.heap.objs.size T.f_Letters_rank cdv))) :
    PSs (cxOf (L2.CX P w) P w K mg base n_Letters_rank "Letters.rank" (defScope s_Letters_rank) T.f_Letters_rank cdv A outer s H E) (defBody s_Letters_rank) (t_Letters_rank K T.c_Letters E) :=
  have nd := sc_Letters_rank.nd
  (pss_cons (ps_if (pt_not (pt_val (pe_meth (pv 0) T.cl_Letters T.M_Letters_has (ok_Letters_has T) (hr.mono (by decide)) T.b_Letters_has .nil pass0 (pa_cons (pv 1) pa_nil)))) (pss_one (BE.ps_raiseI T.ri_NoLetter T.ii_NoLetter T.ti_NoLetter (ok_NoLetter___init__ T) pass0 (hr.mono (by decide)) T.b_NoLetter___init__ (by rfl) T.g_NoLetter (pa_cons (pv 1) pa_nil) rfl rfl rfl rfl rfl)) pss_nil)
  (pss_one (ps_ret (pe_dget (hu_of hr) (pe_fld (pv 0) rfl) (pv 1) (fun _ _ => rfl)))))
theorem ok_Letters_rank (T : Tx K mg) : FnOk P w K mg base (L2.CX P w) 3 T.f_Letters_rank T.d_Letters_rank ["self", "name"] (sp_Letters_rank K T.c_Letters) :=
  T.F_Letters_rank.okX sc_Letters_rank (fun vs H Q E h => len_Letters_rank h) (fun cdv A outer s H vs Q E hr h => ⟨t_Letters_rank K T.c_Letters E, der_Letters_rank T hr, rd_Letters_rank T.rc_Letters h⟩)
theorem der_rising (T : Tx K mg) {cdv : Value} {A : Around} {outer : List Env} {s : Shared} {H : Hp} {E : XK} (hr : Room 0 (A.deeper (envOfC "rising" (defScope s_rising) s.heap.objs.size T.f_rising cdv))) :
    PSs (cxOf CX0 P w K mg base n_rising "rising" (defScope s_rising) T.f_rising cdv A outer s H E).nox (defBody s_rising) (t_rising K) :=
  have nd := sc_rising.nd
  (pss_one (ps_ret (pe_dc (own := [("name", 1)]) rfl nd (pi_list (pe_callB cr_sortedDS (by rfl) T.m_sorted (by decide +kernel) (pa_cons (pv 0) pa_nil))) (blkOk_by (own := [("name", 1)]) (N := n_rising) (sc := defScope s_rising) (by decide +kernel)) (fun _ _ _ _ _ => (pg_name (i := 1) nd rfl (by first | exact Or.inl rfl | exact Or.inr rfl))) (fun _ _ _ _ _ => (pts_one (pt_cmpR op_gt (pe_dget (hu_of hr) (pv 0) (pv 1) (fun _ _ => rfl)) pe_int (nomark _)))) (fun _ _ _ _ _ => (pv 1)) (fun _ _ _ _ _ => (pe_dget (hu_of hr) (pv 0) (pv 1) (fun _ _ => rfl))))))
theorem ok_rising (T : Tx K mg) : FnOk P w K mg base CX0 1 T.f_rising T.d_rising ["counts"] (sp_rising K) :=
  T.F_rising.ok sc_rising (fun vs H Q E h => len_rising h) (fun cdv A outer s H vs Q E hr h => ⟨t_rising K, der_rising T hr, rd_rising h⟩)
theorem der_need_many (T : Tx K mg) {cdv : Value} {A : Around} {outer : List Env} {s : Shared} {H : Hp} {E : XK} (hr : Room 1 (A.deeper (envOfC "need_many" (defScope s_need_many) s.heap.objs.size T.f_need_many cdv))) :
    PSs (cxOf (L2.CX P w) P w K mg base n_need_many "need_many" (defScope s_need_many) T.f_need_many cdv A outer s H E) (defBody s_need_many) (t_need_many K E) :=
  have nd := sc_need_many.nd
  (pss_one (ps_if (PW.pt (pw_or (pt_not (pt_val (pe_call (ok_is_whole T) (hr.mono (by decide)) (by rfl) T.g_is_whole T.F_is_whole.kp T.b_is_whole .nil pass0 (pa_cons (pv 0) pa_nil)))) (pw_or1 (pt_not (pt_chain op_le op_le pe_int (pv 0) (pv 1)))))) (pss_one (BX.ps_raiseO T.rc_NoMany T.g_NoMany rfl rfl rfl rfl rfl (by rfl))) pss_nil))
theorem ok_need_many (T : Tx K mg) : FnOk P w K mg base (L2.CX P w) 2 T.f_need_many T.d_need_many ["thing", "most"] (sp_need_many K) :=
  T.F_need_many.okX sc_need_many (fun vs H Q E h => len_need_many h) (fun cdv A outer s H vs Q E hr h => ⟨t_need_many K E, der_need_many T hr, rd_need_many h⟩)
theorem der_Jars___init__ (T : Tx K mg) {cdv : Value} {A : Around} {outer : List Env} {s : Shared} {H : Hp} {E : XK} (hr : Room 2 (A.deeper (envOfC "Jars.__init__" (defScope s_Jars___init__) s.heap.objs.size T.f_Jars___init__ cdv))) :
    PSs (cxOf (L2.CX P w) P w K mg base n_Jars___init__ "Jars.__init__" (defScope s_Jars___init__) T.f_Jars___init__ cdv A outer s H E) (defBody s_Jars___init__) (t_Jars___init__ K T.c_Letters T.c_Jars E) :=
  have nd := sc_Jars___init__.nd
  (pss_cons (ps_expr (pe_call (ok_need_many T) (hr.mono (by decide)) (by rfl) T.g_need_many T.F_need_many.kp T.b_need_many .nil (passE rfl rfl rfl rfl) (pa_cons (pv 2) (pa_cons (pe_glob (by rfl) T.h_MOST_JARS ⟨_, rfl⟩) pa_nil))))
  (pss_cons (ps_fld (pv 0) (pv 1) rfl)
  (pss_cons (ps_fld (pv 0) (pv 2) rfl)
  (pss_cons (ps_fld (pv 0) pe_dnewK rfl)
  (pss_one (ps_fld (pv 0) pe_dnewK rfl))))))
theorem ok_Jars___init__ (T : Tx K mg) : FnOk P w K mg base (L2.CX P w) 3 T.f_Jars___init__ T.d_Jars___init__ ["self", "letters", "many"] (sp_Jars___init__ K T.c_Letters T.c_Jars) :=
  T.F_Jars___init__.okX sc_Jars___init__ (fun vs H Q E h => len_Jars___init__ h) (fun cdv A outer s H vs Q E hr h => ⟨t_Jars___init__ K T.c_Letters T.c_Jars E, der_Jars___init__ T hr, rd_Jars___init__ T.rc_Letters T.rc_Jars h⟩)
theorem der_Marks___init__ (T : Tx K mg) {cdv : Value} {A : Around} {outer : List Env} {s : Shared} {H : Hp} {E : XK} (hr : Room 2 (A.deeper (envOfC "Marks.__init__" (defScope s_Marks___init__) s.heap.objs.size T.f_Marks___init__ cdv))) :
    PSs (cxOf (L2.CX P w) P w K mg base n_Marks___init__ "Marks.__init__" (defScope s_Marks___init__) T.f_Marks___init__ cdv A outer s H E) (defBody s_Marks___init__) (t_Marks___init__ K T.c_Letters T.c_Marks E) :=
  have nd := sc_Marks___init__.nd
  (pss_cons (ps_expr (pe_call (ok_need_many T) (hr.mono (by decide)) (by rfl) T.g_need_many T.F_need_many.kp T.b_need_many .nil (passE rfl rfl rfl rfl) (pa_cons (pv 2) (pa_cons (pe_glob (by rfl) T.h_MOST_JARS ⟨_, rfl⟩) pa_nil))))
  (pss_cons (ps_fld (pv 0) (pv 1) rfl)
  (pss_cons (ps_fld (pv 0) (pv 2) rfl)
  (pss_one (ps_fld (pv 0) (pe_tup pa_nil) rfl)))))
theorem ok_Marks___init__ (T : Tx K mg) : FnOk P w K mg base (L2.CX P w) 3 T.f_Marks___init__ T.d_Marks___init__ ["self", "letters", "many"] (sp_Marks___init__ K T.c_Letters T.c_Marks) :=
  T.F_Marks___init__.okX sc_Marks___init__ (fun vs H Q E h => len_Marks___init__ h) (fun cdv A outer s H vs Q E hr h => ⟨t_Marks___init__ K T.c_Letters T.c_Marks E, der_Marks___init__ T hr, rd_Marks___init__ T.rc_Letters T.rc_Marks h⟩)
theorem der_Marks_kept (T : Tx K mg) {cdv : Value} {A : Around} {outer : List Env} {s : Shared} {H : Hp} {E : XK} (hr : Room 0 (A.deeper (envOfC "Marks.kept" (defScope s_Marks_kept) s.heap.objs.size T.f_Marks_kept cdv))) :
    PSs (cxOf CX0 P w K mg base n_Marks_kept "Marks.kept" (defScope s_Marks_kept) T.f_Marks_kept cdv A outer s H E).nox (defBody s_Marks_kept) (t_Marks_kept K T.c_Marks) :=
  have nd := sc_Marks_kept.nd
  (pss_one (ps_ret (pe_fld (pv 0) rfl)))
theorem ok_Marks_kept (T : Tx K mg) : FnOk P w K mg base CX0 1 T.f_Marks_kept T.d_Marks_kept ["self"] (sp_Marks_kept K T.c_Marks) :=
  T.F_Marks_kept.ok sc_Marks_kept (fun vs H Q E h => len_Marks_kept h) (fun cdv A outer s H vs Q E hr h => ⟨t_Marks_kept K T.c_Marks, der_Marks_kept T hr, rd_Marks_kept T.rc_Marks h⟩)
theorem der_Marks_many (T : Tx K mg) {cdv : Value} {A : Around} {outer : List Env} {s : Shared} {H : Hp} {E : XK} (hr : Room 0 (A.deeper (envOfC "Marks.many" (defScope s_Marks_many) s.heap.objs.size T.f_Marks_many cdv))) :
    PSs (cxOf CX0 P w K mg base n_Marks_many "Marks.many" (defScope s_Marks_many) T.f_Marks_many cdv A outer s H E).nox (defBody s_Marks_many) (t_Marks_many K T.c_Marks) :=
  have nd := sc_Marks_many.nd
  (pss_one (ps_ret (pe_fld (pv 0) rfl)))
theorem ok_Marks_many (T : Tx K mg) : FnOk P w K mg base CX0 1 T.f_Marks_many T.d_Marks_many ["self"] (sp_Marks_many K T.c_Marks) :=
  T.F_Marks_many.ok sc_Marks_many (fun vs H Q E h => len_Marks_many h) (fun cdv A outer s H vs Q E hr h => ⟨t_Marks_many K T.c_Marks, der_Marks_many T hr, rd_Marks_many T.rc_Marks h⟩)
theorem der_Marks_letters (T : Tx K mg) {cdv : Value} {A : Around} {outer : List Env} {s : Shared} {H : Hp} {E : XK} (hr : Room 0 (A.deeper (envOfC "Marks.letters" (defScope s_Marks_letters) s.heap.objs.size T.f_Marks_letters cdv))) :
    PSs (cxOf CX0 P w K mg base n_Marks_letters "Marks.letters" (defScope s_Marks_letters) T.f_Marks_letters cdv A outer s H E).nox (defBody s_Marks_letters) (t_Marks_letters K T.c_Marks) :=
  have nd := sc_Marks_letters.nd
  (pss_one (ps_ret (pe_fld (pv 0) rfl)))
theorem ok_Marks_letters (T : Tx K mg) : FnOk P w K mg base CX0 1 T.f_Marks_letters T.d_Marks_letters ["self"] (sp_Marks_letters K T.c_Marks) :=
  T.F_Marks_letters.ok sc_Marks_letters (fun vs H Q E h => len_Marks_letters h) (fun cdv A outer s H vs Q E hr h => ⟨t_Marks_letters K T.c_Marks, der_Marks_letters T hr, rd_Marks_letters T.rc_Marks h⟩)
theorem der_Marks___eq__ (T : Tx K mg) {cdv : Value} {A : Around} {outer : List Env} {s : Shared} {H : Hp} {E : XK} (hr : Room 3 (A.deeper (envOfC "Marks.__eq__" (defScope s_Marks___eq__) s.heap.objs.size T.f_Marks___eq__ cdv))) :
    PSs (cxOf CX0 P w K mg base n_Marks___eq__ "Marks.__eq__" (defScope s_Marks___eq__) T.f_Marks___eq__ cdv A outer s H E).nox (defBody s_Marks___eq__) (t_Marks___eq__ K T.c_Letters T.c_Marks) :=
  have nd := sc_Marks___eq__.nd
  (pss_cons (ps_if (PW.pt (pw_or (pt_not (pt_val (pe_callB call_isi (by rfl) T.m_isinstance (by decide +kernel) (pa_cons (pv 1) (pa_cons (pe_glob (by rfl) T.g_Marks rfl) pa_nil))))) (pw_or1 (pt_cmpR (op_insNe (ok_Letters___eq__ T) (hr.mono (by decide)) T.M_Letters___eq__ T.ne_Letters T.rc_Letters.i.hm T.b_Letters___eq__ pass0) (pe_fld (pv 0) rfl) (pe_meth0 (pv 1) T.cl_Marks T.M_Marks_letters (ok_Marks_letters T) (hr.mono (by decide)) T.b_Marks_letters .nil pass0) (nomark _))))) (pss_one (ps_ret pe_bl)) pss_nil)
  (pss_one (ps_ret (pe_cmpR (op_eqT hr.units) (pe_tup (pa_cons (pe_meth0 (pv 0) T.cl_Marks T.M_Marks_many (ok_Marks_many T) (hr.mono (by decide)) T.b_Marks_many .nil pass0) (pa_cons (pe_meth0 (pv 0) T.cl_Marks T.M_Marks_kept (ok_Marks_kept T) (hr.mono (by decide)) T.b_Marks_kept .nil pass0) pa_nil))) (pe_tup (pa_cons (pe_meth0 (pv 1) T.cl_Marks T.M_Marks_many (ok_Marks_many T) (hr.mono (by decide)) T.b_Marks_many .nil pass0) (pa_cons (pe_meth0 (pv 1) T.cl_Marks T.M_Marks_kept (ok_Marks_kept T) (hr.mono (by decide)) T.b_Marks_kept .nil pass0) pa_nil))) (nomark _)))))
theorem ok_Marks___eq__ (T : Tx K mg) : FnOk P w K mg base CX0 4 T.f_Marks___eq__ T.d_Marks___eq__ ["self", "other"] (sp_Marks___eq__ K T.c_Letters T.c_Marks) :=
  T.F_Marks___eq__.ok sc_Marks___eq__ (fun vs H Q E h => len_Marks___eq__ h) (fun cdv A outer s H vs Q E hr h => ⟨t_Marks___eq__ K T.c_Letters T.c_Marks, der_Marks___eq__ T hr, rd_Marks___eq__ T.rc_Letters T.rc_Marks h⟩)
theorem der_Marks_full (T : Tx K mg) {cdv : Value} {A : Around} {outer : List Env} {s : Shared} {H : Hp} {E : XK} (hr : Room 0 (A.deeper (envOfC "Marks.full" (defScope s_Marks_full) s.heap.objs.size T.f_Marks_full cdv))) :
    PSs (cxOf CX0 P w K mg base n_Marks_full "Marks.full" (defScope s_Marks_full) T.f_Marks_full cdv A outer s H E).nox (defBody s_Marks_full) (t_Marks_full K T.c_Marks) :=
  have nd := sc_Marks_full.nd
  (pss_one (ps_ret (pe_cmpR op_eq (pe_callB cr_len (by rfl) T.m_len (by decide +kernel) (pa_cons (pe_fld (pv 0) rfl) pa_nil)) (pe_fld (pv 0) rfl) (nomark _))))
theorem ok_Marks_full (T : Tx K mg) : FnOk P w K mg base CX0 1 T.f_Marks_full T.d_Marks_full ["self"] (sp_Marks_full K T.c_Marks) :=
  T.F_Marks_full.ok sc_Marks_full (fun vs H Q E h => len_Marks_full h) (fun cdv A outer s H vs Q E hr h => ⟨t_Marks_full K T.c_Marks, der_Marks_full T hr, rd_Marks_full T.rc_Marks h⟩)
theorem der_Marks_keep (T : Tx K mg) {cdv : Value} {A : Around} {outer : List Env} {s : Shared} {H : Hp} {E : XK} (hr : Room 1 (A.deeper (envOfC "Marks.keep" (defScope s_Marks_keep) s.heap.objs.size T.f_Marks_keep cdv))) :
    PSs (cxOf CX0 P w K mg base n_Marks_keep "Marks.keep" (defScope s_Marks_keep) T.f_Marks_keep cdv A outer s H E).nox (defBody s_Marks_keep) (t_Marks_keep K T.c_Letters T.c_Marks) :=
  have nd := sc_Marks_keep.nd
  (pss_cons (ps_setLc (i := 2) (own := [("name", 3)]) rfl nd rfl rfl (sw_true rfl rfl rfl (by decide +kernel)) (pi_list (pe_meth0 (pe_fld (pv 0) rfl) T.cl_Letters T.M_Letters_ranked (ok_Letters_ranked T) (hr.mono (by decide)) T.b_Letters_ranked .nil pass0)) (blkOk_by (own := [("name", 3)]) (N := n_Marks_keep) (sc := defScope s_Marks_keep) (by decide +kernel)) (fun _ _ _ _ _ => (pg_name (i := 3) nd rfl (by first | exact Or.inl rfl | exact Or.inr rfl))) (fun _ _ _ _ _ => (pts_one (pt_cmpR (op_inTT hr.units) (pv 3) (pv 1) rfl))) (fun _ _ _ _ _ => (pv 3)))
  (pss_one (ps_fld (pv 0) (pe_callTy cr_tupleO (by rfl) T.m_tuple (by decide +kernel) (pa_cons (pe_slice sl_list (pv 2) po_none (po_some (pe_fld (pv 0) rfl))) pa_nil)) rfl)))
theorem ok_Marks_keep (T : Tx K mg) : FnOk P w K mg base CX0 2 T.f_Marks_keep T.d_Marks_keep ["self", "names"] (sp_Marks_keep K T.c_Letters T.c_Marks) :=
  T.F_Marks_keep.ok sc_Marks_keep (fun vs H Q E h => len_Marks_keep h) (fun cdv A outer s H vs Q E hr h => ⟨t_Marks_keep K T.c_Letters T.c_Marks, der_Marks_keep T hr, rd_Marks_keep T.rc_Letters T.rc_Marks h⟩)
theorem der_Marks_meet (T : Tx K mg) {cdv : Value} {A : Around} {outer : List Env} {s : Shared} {H : Hp} {E : XK} (hr : Room 3 (A.deeper (envOfC "Marks.meet" (defScope s_Marks_meet) s.heap.objs.size T.f_Marks_meet cdv))) :
    PSs (cxOf (L2.CX P w) P w K mg base n_Marks_meet "Marks.meet" (defScope s_Marks_meet) T.f_Marks_meet cdv A outer s H E) (defBody s_Marks_meet) (t_Marks_meet K T.c_Letters T.c_Marks E) :=
  have nd := sc_Marks_meet.nd
  (pss_cons (ps_expr (pe_meth (pe_fld (pv 0) rfl) T.cl_Letters T.M_Letters_rank (ok_Letters_rank T) (hr.mono (by decide)) T.b_Letters_rank .nil (passE rfl rfl rfl rfl) (pa_cons (pv 1) pa_nil)))
  (pss_one (ps_expr (pe_meth (pv 0) T.cl_Marks T.M_Marks_keep (ok_Marks_keep T) (hr.mono (by decide)) T.b_Marks_keep .nil pass0 (pa_cons (pe_op op_catA (pe_fld (pv 0) rfl) (pe_tup (pa_cons (pv 1) pa_nil))) pa_nil)))))
theorem ok_Marks_meet (T : Tx K mg) : FnOk P w K mg base (L2.CX P w) 4 T.f_Marks_meet T.d_Marks_meet ["self", "letter"] (sp_Marks_meet K T.c_Letters T.c_Marks) :=
  T.F_Marks_meet.okX sc_Marks_meet (fun vs H Q E h => len_Marks_meet h) (fun cdv A outer s H vs Q E hr h => ⟨t_Marks_meet K T.c_Letters T.c_Marks E, der_Marks_meet T hr, rd_Marks_meet T.rc_Letters T.rc_Marks h⟩)
theorem der_Marks_made_smaller (T : Tx K mg) {cdv : Value} {A : Around} {outer : List Env} {s : Shared} {H : Hp} {E : XK} (hr : Room 2 (A.deeper (envOfC "Marks.made_smaller" (defScope s_Marks_made_smaller) s.heap.objs.size T.f_Marks_made_smaller cdv))) :
    PSs (cxOf (L2.CX P w) P w K mg base n_Marks_made_smaller "Marks.made_smaller" (defScope s_Marks_made_smaller) T.f_Marks_made_smaller cdv A outer s H E) (defBody s_Marks_made_smaller) (t_Marks_made_smaller K T.c_Marks E) :=
  have nd := sc_Marks_made_smaller.nd
  (pss_cons (ps_expr (pe_call (ok_need_many T) (hr.mono (by decide)) (by rfl) T.g_need_many T.F_need_many.kp T.b_need_many .nil (passE rfl rfl rfl rfl) (pa_cons (pv 1) (pa_cons (pe_fld (pv 0) rfl) pa_nil))))
  (pss_cons (ps_fld (pv 0) (pv 1) rfl)
  (pss_one (ps_fld (pv 0) (pe_slice sl_tupA (pe_fld (pv 0) rfl) po_none (po_some (pv 1))) rfl))))
theorem ok_Marks_made_smaller (T : Tx K mg) : FnOk P w K mg base (L2.CX P w) 3 T.f_Marks_made_smaller T.d_Marks_made_smaller ["self", "many"] (sp_Marks_made_smaller K T.c_Marks) :=
  T.F_Marks_made_smaller.okX sc_Marks_made_smaller (fun vs H Q E h => len_Marks_made_smaller h) (fun cdv A outer s H vs Q E hr h => ⟨t_Marks_made_smaller K T.c_Marks E, der_Marks_made_smaller T hr, rd_Marks_made_smaller T.rc_Marks h⟩)
theorem der_Marks_pour (T : Tx K mg) {cdv : Value} {A : Around} {outer : List Env} {s : Shared} {H : Hp} {E : XK} (hr : Room 3 (A.deeper (envOfC "Marks.pour" (defScope s_Marks_pour) s.heap.objs.size T.f_Marks_pour cdv))) :
    PSs (cxOf (L2.CX P w) P w K mg base n_Marks_pour "Marks.pour" (defScope s_Marks_pour) T.f_Marks_pour cdv A outer s H E) (defBody s_Marks_pour) (t_Marks_pour K T.c_Letters T.c_Marks E) :=
  have nd := sc_Marks_pour.nd
  (pss_cons (ps_if (PW.pt (pw_or (pt_not (pt_val (pe_callB call_isi (by rfl) T.m_isinstance (by decide +kernel) (pa_cons (pv 1) (pa_cons (pe_glob (by rfl) T.g_Marks rfl) pa_nil))))) (pw_or1 (pt_cmpR (op_insNe (ok_Letters___eq__ T) (hr.mono (by decide)) T.M_Letters___eq__ T.ne_Letters T.rc_Letters.i.hm T.b_Letters___eq__ pass0) (pe_fld (pv 0) rfl) (pe_meth0 (pv 1) T.cl_Marks T.M_Marks_letters (ok_Marks_letters T) (hr.mono (by decide)) T.b_Marks_letters .nil pass0) (nomark _))))) (pss_one (BX.ps_raiseO T.rc_NoKeeper T.g_NoKeeper rfl rfl rfl rfl rfl (by rfl))) pss_nil)
  (pss_cons (ps_expr (pe_meth (pv 0) T.cl_Marks T.M_Marks_made_smaller (ok_Marks_made_smaller T) (hr.mono (by decide)) T.b_Marks_made_smaller .nil (passE rfl rfl rfl rfl) (pa_cons (pe_callB (cr_min2 rfl) (by rfl) T.m_min (by decide +kernel) (pa_cons (pe_fld (pv 0) rfl) (pa_cons (pe_meth0 (pv 1) T.cl_Marks T.M_Marks_many (ok_Marks_many T) (hr.mono (by decide)) T.b_Marks_many .nil pass0) pa_nil))) pa_nil)))
  (pss_one (ps_expr (pe_meth (pv 0) T.cl_Marks T.M_Marks_keep (ok_Marks_keep T) (hr.mono (by decide)) T.b_Marks_keep .nil pass0 (pa_cons (pe_op op_catA (pe_fld (pv 0) rfl) (pe_meth0 (pv 1) T.cl_Marks T.M_Marks_kept (ok_Marks_kept T) (hr.mono (by decide)) T.b_Marks_kept .nil pass0)) pa_nil))))))
theorem ok_Marks_pour (T : Tx K mg) : FnOk P w K mg base (L2.CX P w) 4 T.f_Marks_pour T.d_Marks_pour ["self", "other"] (sp_Marks_pour K T.c_Letters T.c_Marks) :=
  T.F_Marks_pour.okX sc_Marks_pour (fun vs H Q E h => len_Marks_pour h) (fun cdv A outer s H vs Q E hr h => ⟨t_Marks_pour K T.c_Letters T.c_Marks E, der_Marks_pour T hr, rd_Marks_pour T.rc_Letters T.rc_Marks h⟩)
theorem der_Marks_twin (T : Tx K mg) {cdv : Value} {A : Around} {outer : List Env} {s : Shared} {H : Hp} {E : XK} (hr : Room 4 (A.deeper (envOfC "Marks.twin" (defScope s_Marks_twin) s.heap.objs.size T.f_Marks_twin cdv))) :
    PSs (cxOf CX0 P w K mg base n_Marks_twin "Marks.twin" (defScope s_Marks_twin) T.f_Marks_twin cdv A outer s H E).nox (defBody s_Marks_twin) (t_Marks_twin K T.c_Letters T.c_Marks) :=
  have nd := sc_Marks_twin.nd
  (pss_cons (ps_set (i := 1) nd rfl (Or.inl rfl) (pe_make T.K_Marks (ok_Marks___init__ T) (hr.mono (by decide)) (by rfl) T.g_Marks T.b_Marks___init__ .nil passL (pa_cons (pe_fld (pv 0) rfl) (pa_cons (pe_fld (pv 0) rfl) pa_nil))))
  (pss_cons (ps_fld (pv 1) (pe_fld (pv 0) rfl) rfl)
  (pss_one (ps_ret (pv 1)))))
theorem ok_Marks_twin (T : Tx K mg) : FnOk P w K mg base CX0 5 T.f_Marks_twin T.d_Marks_twin ["self"] (sp_Marks_twin K T.c_Letters T.c_Marks) :=
  T.F_Marks_twin.ok sc_Marks_twin (fun vs H Q E h => len_Marks_twin h) (fun cdv A outer s H vs Q E hr h => ⟨t_Marks_twin K T.c_Letters T.c_Marks, der_Marks_twin T hr, rd_Marks_twin T.rc_Letters T.rc_Marks h⟩)
theorem der__law_begun (T : Tx K mg) {cdv : Value} {A : Around} {outer : List Env} {s : Shared} {H : Hp} {E : XK} (hr : Room 0 (A.deeper (envOfC "_law_begun" (defScope s__law_begun) s.heap.objs.size T.f__law_begun cdv))) :
    PSs (cxOf CX0 P w K mg base n__law_begun "_law_begun" (defScope s__law_begun) T.f__law_begun cdv A outer s H E).nox (defBody s__law_begun) (t__law_begun K) :=
  have nd := sc__law_begun.nd
  (pss_one (ps_ret (pe_lst (pa_cons (pe_op op_cat (pe_lc (own := [("_law_cell", 1)]) rfl nd (pi_list (pv 0)) (blkOk_by (own := [("_law_cell", 1)]) (N := n__law_begun) (sc := defScope s__law_begun) (by decide +kernel)) (fun _ _ _ _ _ => (pg_name (i := 1) nd rfl (by first | exact Or.inl rfl | exact Or.inr rfl))) (fun _ _ _ _ _ => pts_nil) (fun _ _ _ _ _ => (pe_callB cr_abs (by rfl) T.m_abs (by decide +kernel) (pa_cons (pv 1) pa_nil)))) (pe_op op_rep (pe_lst (pa_cons pe_int pa_nil)) (pe_callTy call_int1 (by rfl) T.m_int (by decide +kernel) (pa_cons (pe_cmpR op_eq (pe_callB cr_len (by rfl) T.m_len (by decide +kernel) (pa_cons (pv 0) pa_nil)) pe_int (nomark _)) pa_nil)))) (pa_cons pe_int (pa_cons pe_int pa_nil))))))
theorem ok__law_begun (T : Tx K mg) : FnOk P w K mg base CX0 1 T.f__law_begun T.d__law_begun ["_law_script"] (sp__law_begun K) :=
  T.F__law_begun.ok sc__law_begun (fun vs H Q E h => len__law_begun h) (fun cdv A outer s H vs Q E hr h => ⟨t__law_begun K, der__law_begun T hr, rd__law_begun h⟩)
theorem der__law_draw (T : Tx K mg) {cdv : Value} {A : Around} {outer : List Env} {s : Shared} {H : Hp} {E : XK} (hr : Room 0 (A.deeper (envOfC "_law_draw" (defScope s__law_draw) s.heap.objs.size T.f__law_draw cdv))) :
    PSs (cxOf CX0 P w K mg base n__law_draw "_law_draw" (defScope s__law_draw) T.f__law_draw cdv A outer s H E).nox (defBody s__law_draw) (t__law_draw K) :=
  have nd := sc__law_draw.nd
  (pss_cons (ps_set (i := 2) nd rfl (Or.inl rfl) (pe_ix ix_list (pv 0) pe_int (fun _ _ => rfl)))
  (pss_cons (ps_set (i := 3) nd rfl (Or.inl rfl) (pe_op op_mod (pe_ix ix_list (pv 0) pe_int (fun _ _ => rfl)) (pe_callB cr_len (by rfl) T.m_len (by decide +kernel) (pa_cons (pv 2) pa_nil))))
  (pss_cons (ps_set (i := 4) nd rfl (Or.inl rfl) (pe_ix ix_list (pv 2) (pv 3) (fun _ _ => rfl)))
  (pss_cons (ps_if (pt_cmpR op_ge (pv 4) pe_int (nomark _)) (pss_cons (ps_asg (pe_op op_fdiv (pv 4) (pv 1)) (pg_sub (pv 2) (pv 3) set_list))
  (pss_one (ps_ret (pe_op op_mod (pv 4) (pv 1))))) pss_nil)
  (pss_cons (ps_asg (pe_op op_add (pe_ix ix_list (pv 0) pe_int (fun _ _ => rfl)) pe_int) (pg_sub (pv 0) pe_int set_list))
  (pss_cons (ps_asg (pe_op op_mod (pe_op op_add (pe_op op_add (pe_op op_mul (pe_ix ix_list (pv 0) pe_int (fun _ _ => rfl)) pe_int) (pv 4)) pe_int) pe_int) (pg_sub (pv 0) pe_int set_list))
  (pss_one (ps_ret (pe_op op_mod (pe_op op_fdiv (pe_op op_mod (pe_op op_mul (pe_ix ix_list (pv 0) pe_int (fun _ _ => rfl)) (pe_ix ix_list (pv 0) pe_int (fun _ _ => rfl))) pe_int) pe_int) (pv 1))))))))))
theorem ok__law_draw (T : Tx K mg) : FnOk P w K mg base CX0 1 T.f__law_draw T.d__law_draw ["_law_state", "_law_size_of"] (sp__law_draw K) :=
  T.F__law_draw.ok sc__law_draw (fun vs H Q E h => len__law_draw h) (fun cdv A outer s H vs Q E hr h => ⟨t__law_draw K, der__law_draw T hr, rd__law_draw h⟩)
theorem der__law_alphabet (T : Tx K mg) {cdv : Value} {A : Around} {outer : List Env} {s : Shared} {H : Hp} {E : XK} (hr : Room 1 (A.deeper (envOfC "_law_alphabet" (defScope s__law_alphabet) s.heap.objs.size T.f__law_alphabet cdv))) :
    PSs (cxOf CX0 P w K mg base n__law_alphabet "_law_alphabet" (defScope s__law_alphabet) T.f__law_alphabet cdv A outer s H E).nox (defBody s__law_alphabet) (t__law_alphabet K) :=
  have nd := sc__law_alphabet.nd
  (pss_cons (ps_set (i := 3) nd rfl (Or.inl rfl) (pe_split pe_str pe_str))
  (pss_cons (ps_set (i := 4) nd rfl (Or.inr rfl) pe_str)
  (pss_cons (ps_set (i := 5) nd rfl (Or.inl rfl) (pe_lst pa_nil))
  (pss_cons (ps_for PassesOwn.never rfl (pi_range1 rfl T.m_range (pa_cons (pe_op op_add (pv 1) (pe_call (ok__law_draw T) (hr.mono (by decide)) (by rfl) T.g__law_draw T.F__law_draw.kp T.b__law_draw .nil pass0 (pa_cons (pv 0) (pa_cons (pe_op op_add (pe_op op_sub (pv 2) (pv 1)) pe_int) pa_nil)))) pa_nil)) (pg_name (i := 6) nd rfl (by first | exact Or.inl rfl | exact Or.inr rfl))
  (pss_cons (ps_set (i := 7) nd rfl (Or.inl rfl) (pe_bm PySem.F.plainAttrs_list PySem.F.slot_list_pop PySem.F.type_list_pop mt_popAt (pv 3) (pa_cons (pe_call (ok__law_draw T) (hr.mono (by decide)) (by rfl) T.g__law_draw T.F__law_draw.kp T.b__law_draw .nil pass0 (pa_cons (pv 0) (pa_cons (pe_callB cr_len (by rfl) T.m_len (by decide +kernel) (pa_cons (pv 3) pa_nil)) pa_nil))) pa_nil)))
  (pss_cons (ps_if (pt_cmpR op_eq (pe_call (ok__law_draw T) (hr.mono (by decide)) (by rfl) T.g__law_draw T.F__law_draw.kp T.b__law_draw .nil pass0 (pa_cons (pv 0) (pa_cons pe_int pa_nil))) pe_int (nomark _)) (pss_cons (ps_set (i := 8) nd rfl (Or.inl rfl) (pe_join pe_str (pe_lc (own := [("_law_spot", 9)]) rfl nd (pi_range1 rfl T.m_range (pa_cons (pe_op op_add pe_int (pe_call (ok__law_draw T) (hr.mono (by decide)) (by rfl) T.g__law_draw T.F__law_draw.kp T.b__law_draw .nil pass0 (pa_cons (pv 0) (pa_cons pe_int pa_nil)))) pa_nil)) (blkOk_by (own := [("_law_spot", 9)]) (N := n__law_alphabet) (sc := defScope s__law_alphabet) (by decide +kernel)) (fun _ _ _ _ _ => (pg_name (i := 9) nd rfl (by first | exact Or.inl rfl | exact Or.inr rfl))) (fun _ _ _ _ _ => pts_nil) (fun _ _ _ _ _ => (pe_ix ix_str (pv 4) (pe_call (ok__law_draw T) (hr.mono (by decide)) (by rfl) T.g__law_draw T.F__law_draw.kp T.b__law_draw .nil pass0 (pa_cons (pv 0) (pa_cons pe_int pa_nil))) (fun _ _ => rfl))))))
  (pss_one (ps_set (i := 7) nd rfl (Or.inl rfl) (pe_ifExp (pt_cmpR (op_notInTL hr.units) (pv 8) (pe_op op_cat (pv 5) (pv 3)) rfl) (pv 8) (pv 7))))) pss_nil)
  (pss_one (ps_expr (pe_bm PySem.F.plainAttrs_list PySem.F.slot_list_append PySem.F.type_list_append mt_append (pv 5) (pa_cons (pv 7) pa_nil)))))))
  (pss_one (ps_ret (pv 5)))))))
theorem ok__law_alphabet (T : Tx K mg) : FnOk P w K mg base CX0 2 T.f__law_alphabet T.d__law_alphabet ["_law_state", "_law_low", "_law_high"] (sp__law_alphabet K) :=
  T.F__law_alphabet.ok sc__law_alphabet (fun vs H Q E h => len__law_alphabet h) (fun cdv A outer s H vs Q E hr h => ⟨t__law_alphabet K, der__law_alphabet T hr, rd__law_alphabet h⟩)
theorem der__law_least (T : Tx K mg) {cdv : Value} {A : Around} {outer : List Env} {s : Shared} {H : Hp} {E : XK} (hr : Room 0 (A.deeper (envOfC "_law_least" (defScope s__law_least) s.heap.objs.size T.f__law_least cdv))) :
    PSs (cxOf CX0 P w K mg base n__law_least "_law_least" (defScope s__law_least) T.f__law_least cdv A outer s H E).nox (defBody s__law_least) (t__law_least K) :=
  have nd := sc__law_least.nd
  (pss_one (ps_ret (pe_callTy cr_tupleO (by rfl) T.m_tuple (by decide +kernel) (pa_cons (pe_slice sl_list (pe_lc (own := [("_law_name", 3)]) rfl nd (pi_list (pv 0)) (blkOk_by (own := [("_law_name", 3)]) (N := n__law_least) (sc := defScope s__law_least) (by decide +kernel)) (fun _ _ _ _ _ => (pg_name (i := 3) nd rfl (by first | exact Or.inl rfl | exact Or.inr rfl))) (fun _ _ _ _ _ => (pts_one (pt_cmpR (op_inTT hr.units) (pv 3) (pv 1) rfl))) (fun _ _ _ _ _ => (pv 3))) po_none (po_some (pv 2))) pa_nil))))
theorem ok__law_least (T : Tx K mg) : FnOk P w K mg base CX0 1 T.f__law_least T.d__law_least ["_law_alphabet_here", "_law_met", "_law_wide"] (sp__law_least K) :=
  T.F__law_least.ok sc__law_least (fun vs H Q E h => len__law_least h) (fun cdv A outer s H vs Q E hr h => ⟨t__law_least K, der__law_least T hr, rd__law_least h⟩)
theorem der__law_word (T : Tx K mg) {cdv : Value} {A : Around} {outer : List Env} {s : Shared} {H : Hp} {E : XK} (hr : Room 0 (A.deeper (envOfC "_law_word" (defScope s__law_word) s.heap.objs.size T.f__law_word cdv))) :
    PSs (cxOf CX0 P w K mg base n__law_word "_law_word" (defScope s__law_word) T.f__law_word cdv A outer s H E).nox (defBody s__law_word) (t__law_word K) :=
  have nd := sc__law_word.nd
  (pss_cons (ps_if (pt_cmpR op_isN (pv 0) pe_non (nomark _)) (pss_one (ps_ret pe_str)) pss_nil)
  (pss_cons (ps_set (i := 1) nd rfl (Or.inl rfl) (pe_lst (pa_cons (pe_callB BE.call_isF (by rfl) T.m_isinstance (by decide +kernel) (pa_cons (pv 0) (pa_cons (pe_glob (by rfl) T.g_NoLetter rfl) pa_nil))) (pa_cons (pe_callB BE.call_isF (by rfl) T.m_isinstance (by decide +kernel) (pa_cons (pv 0) (pa_cons (pe_glob (by rfl) T.g_NoTimes rfl) pa_nil))) (pa_cons (pe_callB BE.call_isF (by rfl) T.m_isinstance (by decide +kernel) (pa_cons (pv 0) (pa_cons (pe_glob (by rfl) T.g_NoMany rfl) pa_nil))) pa_nil)))))
  (pss_cons (ps_set (i := 1) nd rfl (Or.inl rfl) (pe_op op_cat (pv 1) (pe_lst (pa_cons (pe_callB BE.call_isF (by rfl) T.m_isinstance (by decide +kernel) (pa_cons (pv 0) (pa_cons (pe_glob (by rfl) T.g_NoKeeper rfl) pa_nil))) (pa_cons (pe_callB BE.call_isF (by rfl) T.m_isinstance (by decide +kernel) (pa_cons (pv 0) (pa_cons (pe_glob (by rfl) T.g_NoLetters rfl) pa_nil))) (pa_cons (pe_callB BE.call_isF (by rfl) T.m_isinstance (by decide +kernel) (pa_cons (pv 0) (pa_cons (pe_glob (by rfl) T.g_NoFeed rfl) pa_nil))) pa_nil))))))
  (pss_cons (ps_set (i := 1) nd rfl (Or.inl rfl) (pe_op op_cat (pv 1) (pe_lst (pa_cons (pe_callB BE.call_isF (by rfl) T.m_isinstance (by decide +kernel) (pa_cons (pv 0) (pa_cons (pe_glob (by rfl) T.g_NoPast rfl) pa_nil))) (pa_cons (pe_callB BE.call_isF (by rfl) T.m_isinstance (by decide +kernel) (pa_cons (pv 0) (pa_cons (pe_glob (by rfl) T.g_NoTally rfl) pa_nil))) (pa_cons (pe_callB BE.call_isF (by rfl) T.m_isinstance (by decide +kernel) (pa_cons (pv 0) (pa_cons (pe_glob (by rfl) T.g_NoCount rfl) pa_nil))) pa_nil))))))
  (pss_cons (ps_set (i := 1) nd rfl (Or.inl rfl) (pe_op op_cat (pv 1) (pe_lst (pa_cons (pe_callB BE.call_isF (by rfl) T.m_isinstance (by decide +kernel) (pa_cons (pv 0) (pa_cons (pe_glob (by rfl) T.g_NoNumber rfl) pa_nil))) (pa_cons (pe_callB BE.call_isF (by rfl) T.m_isinstance (by decide +kernel) (pa_cons (pv 0) (pa_cons (pe_glob (by rfl) T.g_NoDeed rfl) pa_nil))) (pa_cons (pe_callB BE.call_isF (by rfl) T.m_isinstance (by decide +kernel) (pa_cons (pv 0) (pa_cons (pe_glob (by rfl) T.g_NoName rfl) pa_nil))) pa_nil))))))
  (pss_cons (ps_if (PW.pt (pw_or (pt_cmpR op_ne (pe_bm PySem.F.plainAttrs_list PySem.F.slot_list_count PySem.F.type_list_count mt_countF (pv 1) (pa_cons pe_bl pa_nil)) pe_int (nomark _)) (pw_or1 (pt_not (pt_val (pe_callB BE.call_isF (by rfl) T.m_isinstance (by decide +kernel) (pa_cons (pv 0) (pa_cons (pe_bltn (by rfl) T.m_ValueError (by decide +kernel) rfl) pa_nil)))))))) (pss_one (ps_ret pe_str)) pss_nil)
  (pss_cons (ps_set (i := 2) nd rfl (Or.inl rfl) (pe_split pe_str pe_str))
  (pss_one (ps_ret (pe_ix ix_list (pv 2) (pe_bm PySem.F.plainAttrs_list PySem.F.slot_list_index PySem.F.type_list_index mt_index (pv 1) (pa_cons pe_bl pa_nil)) (fun _ _ => rfl)))))))))))
theorem ok__law_word (T : Tx K mg) : FnOk P w K mg base CX0 1 T.f__law_word T.d__law_word ["_law_error"] (sp__law_word K) :=
  T.F__law_word.ok sc__law_word (fun vs H Q E h => len__law_word h) (fun cdv A outer s H vs Q E hr h => ⟨t__law_word K, der__law_word T hr, rd__law_word h⟩)
theorem gv__law_refused {X : Cx} {K : Fg} {mg : Str → Option Value} (hK : X.K = K) (hM : X.mg = mg) (T : Tx K mg) {qq : Str} {kk : Nat} {cdg : Value} (hk : 1 ≤ kk + 1) : LM.Gives X n__law_refused "_law_refused" (defScope s__law_refused) T.f__law_refused cdg (defBody s__law_refused) "_law_work" qq (kk + 1) (TTref K (cErr K "LeftError") (sp__law_word K)) := by
  subst hK hM
  exact
    gives_ref rfl fun f d s H tl hr act =>
    have nd := sc__law_refused.nd
    (pss_cons (ps_set (i := 1) nd rfl (Or.inl rfl) pe_non)
    (pss_cons (BX.ps_try_asK (i := 2) (tb := fun W => tDrop (fun σZ HZ Q => σZ[0]? = some (some (V.ref f)) ∧ HZ d = some (LamX.CodeO d qq) ∧ tl (WE W σZ) HZ Q)) (ts := fun _ _ _ => (tAsg (tVar 2) (gName 1))) (Wout := fun _ _ _ _ => False) rfl rfl nd rfl rfl (by exact ⟨by rfl, by decide, Or.inl T.g_LeftError⟩) takes0 (fun W pn xe tk _ => (pss_one (ps_expr (act W pn xe _ _ tk)))) (fun a oe cls d pn hz hf => (pss_one (ps_set (i := 1) nd rfl (Or.inl rfl) (pv 2)))) rfl)
    (pss_one (ps_ret (pe_call (ok__law_word T) (hr.mono hk) (by rfl) T.g__law_word T.F__law_word.kp T.b__law_word .nil pass0 (pa_cons (pv 1) pa_nil))))))
theorem der__law_stands (T : Tx K mg) {cdv : Value} {A : Around} {outer : List Env} {s : Shared} {H : Hp} {E : XK} (hgd : A.guards = some []) (hr : Room 3 (A.deeper (envOfC "_law_stands" (defScope s__law_stands) s.heap.objs.size T.f__law_stands cdv))) :
    PSs (cxOf CX0 P w K mg base n__law_stands "_law_stands" (defScope s__law_stands) T.f__law_stands cdv A outer s H E).nox (defBody s__law_stands) (t__law_stands K T.c_Letters T.c_Marks) :=
  have nd := sc__law_stands.nd
  (pss_cons (ps_set (i := 3) nd rfl (Or.inl rfl) (pe_call (ok__law_least T) (hr.mono (by decide)) (by rfl) T.g__law_least T.F__law_least.kp T.b__law_least .nil pass0 (pa_cons (pv 1) (pa_cons (pe_ix ix_list (pv 2) pe_int (fun _ _ => rfl)) (pa_cons (pe_ix ix_list (pv 2) pe_int (fun _ _ => rfl)) pa_nil)))))
  (pss_cons (ps_if (pt_cmpR op_ne (pe_callB (cr_repr hgd hr.units) (by rfl) T.m_repr (by decide +kernel) (pa_cons (pe_lst (pa_cons (pe_meth0 (pv 0) T.cl_Marks T.M_Marks_kept (ok_Marks_kept T) (hr.mono (by decide)) T.b_Marks_kept .nil pass0) (pa_cons (pe_meth0 (pv 0) T.cl_Marks T.M_Marks_many (ok_Marks_many T) (hr.mono (by decide)) T.b_Marks_many .nil pass0) (pa_cons (pe_meth0 (pv 0) T.cl_Marks T.M_Marks_full (ok_Marks_full T) (hr.mono (by decide)) T.b_Marks_full .nil pass0) pa_nil)))) pa_nil)) (pe_callB (cr_repr hgd hr.units) (by rfl) T.m_repr (by decide +kernel) (pa_cons (pe_lst (pa_cons (pv 3) (pa_cons (pe_ix ix_list (pv 2) pe_int (fun _ _ => rfl)) (pa_cons (pe_cmpR op_eq (pe_callB cr_len (by rfl) T.m_len (by decide +kernel) (pa_cons (pv 3) pa_nil)) (pe_ix ix_list (pv 2) pe_int (fun _ _ => rfl)) (nomark _)) pa_nil)))) pa_nil)) (nomark _)) (pss_one (ps_ret pe_bl)) pss_nil)
  (pss_one (ps_ret (pe_cmpR (op_insEq (ok_Letters___eq__ T) (hr.mono (by decide)) T.M_Letters___eq__ T.b_Letters___eq__ pass0) (pe_meth0 (pv 0) T.cl_Marks T.M_Marks_letters (ok_Marks_letters T) (hr.mono (by decide)) T.b_Marks_letters .nil pass0) (pe_make T.K_Letters (ok_Letters___init__ T) (hr.mono (by decide)) (by rfl) T.g_Letters T.b_Letters___init__ .nil pass0 (pa_cons (pv 1) pa_nil)) (nomark _))))))
theorem ok__law_stands (T : Tx K mg) : FnG P w K mg base 4 T.f__law_stands T.d__law_stands ["_law_mark", "_law_alphabet_here", "_law_plain"] (sp__law_stands K T.c_Letters T.c_Marks) :=
  okG T.F__law_stands sc__law_stands (fun vs H Q E h => len__law_stands h) (fun cdv A hgd outer s H vs Q E hr h => ⟨t__law_stands K T.c_Letters T.c_Marks, der__law_stands T hgd hr, rd__law_stands T.rc_Letters T.rc_Marks h⟩)
theorem der__law_turn (T : Tx K mg) {cdv : Value} {A : Around} {outer : List Env} {s : Shared} {H : Hp} {E : XK} (hr : Room 4 (A.deeper (envOfC "_law_turn" (defScope s__law_turn) s.heap.objs.size T.f__law_turn cdv))) :
    PSs (cxOf CX0 P w K mg base n__law_turn "_law_turn" (defScope s__law_turn) T.f__law_turn cdv A outer s H E).nox (defBody s__law_turn) (t__law_turn K T.c_Letters T.c_Marks) :=
  have nd := sc__law_turn.nd
  (pss_cons (ps_par3 (i := 4) (j := 5) (l := 6) rfl nd rfl rfl rfl (by decide) (by decide) (by decide) rfl rfl rfl (pa_cons (pe_call (ok__law_draw T) (hr.mono (by decide)) (by rfl) T.g__law_draw T.F__law_draw.kp T.b__law_draw .nil pass0 (pa_cons (pv 0) (pa_cons (pe_callB cr_len (by rfl) T.m_len (by decide +kernel) (pa_cons (pv 2) pa_nil)) pa_nil))) (pa_cons (pe_call (ok__law_draw T) (hr.mono (by decide)) (by rfl) T.g__law_draw T.F__law_draw.kp T.b__law_draw .nil pass0 (pa_cons (pv 0) (pa_cons (pe_callB cr_len (by rfl) T.m_len (by decide +kernel) (pa_cons (pv 2) pa_nil)) pa_nil))) (pa_cons (pe_call (ok__law_draw T) (hr.mono (by decide)) (by rfl) T.g__law_draw T.F__law_draw.kp T.b__law_draw .nil pass0 (pa_cons (pv 0) (pa_cons pe_int pa_nil))) pa_nil))) (by rfl))
  (pss_cons (ps_set (i := 7) nd rfl (Or.inr rfl) (pe_ix ix_list (pv 2) (pv 4) (fun _ _ => rfl)))
  (pss_cons (ps_if (pt_cmpR op_eq (pv 6) pe_int (nomark _)) (pss_cons (ps_set (i := 8) nd rfl (Or.inl rfl) (pe_op op_add pe_int (pe_call (ok__law_draw T) (hr.mono (by decide)) (by rfl) T.g__law_draw T.F__law_draw.kp T.b__law_draw .nil pass0 (pa_cons (pv 0) (pa_cons (pe_ix ix_list (pv 7) pe_int (fun _ _ => rfl)) pa_nil)))))
  (pss_cons (ps_asg (pe_lst (pa_cons (pv 8) (pa_cons (pe_ix ix_list (pv 7) pe_int (fun _ _ => rfl)) pa_nil))) (pg_sub (pv 2) (pv 4) set_list))
  (pss_one (ps_ret (pe_meth (pe_ix ix_list (pv 1) (pv 4) (fun _ _ => rfl)) T.cl_Marks T.M_Marks_made_smaller (ok_Marks_made_smaller T) (hr.mono (by decide)) T.b_Marks_made_smaller .nil passL (pa_cons (pv 8) pa_nil)))))) pss_nil)
  (pss_cons (ps_if (PW.pt (pw_and (pt_cmpR op_eq (pv 6) pe_int (nomark _)) (pw_and1 (pt_cmpR op_lt (pe_ix ix_list (pv 0) pe_int (fun _ _ => rfl)) pe_int (nomark _))))) (pss_cons (ps_asg (pe_op op_add (pe_ix ix_list (pv 0) pe_int (fun _ _ => rfl)) pe_int) (pg_sub (pv 0) pe_int set_list))
  (pss_cons (ps_par (i := 8) (j := 9) rfl nd rfl rfl (by decide) rfl rfl (pa_cons (pe_callB (cr_min2 rfl) (by rfl) T.m_min (by decide +kernel) (pa_cons (pe_ix ix_list (pv 7) pe_int (fun _ _ => rfl)) (pa_cons (pe_ix ix_list (pe_ix ix_list (pv 2) (pv 5) (fun _ _ => rfl)) pe_int (fun _ _ => rfl)) pa_nil))) (pa_cons (pe_lc (own := [("_law_name", 10)]) rfl nd (pi_tup (pe_ix ix_list (pe_ix ix_list (pv 2) (pv 5) (fun _ _ => rfl)) pe_int (fun _ _ => rfl))) (blkOk_by (own := [("_law_name", 10)]) (N := n__law_turn) (sc := defScope s__law_turn) (by decide +kernel)) (fun _ _ _ _ _ => (pg_name (i := 10) nd rfl (by first | exact Or.inl rfl | exact Or.inr rfl))) (fun _ _ _ _ _ => (pts_one (pt_cmpR (op_notInTT hr.units) (pv 10) (pe_ix ix_list (pv 7) pe_int (fun _ _ => rfl)) rfl))) (fun _ _ _ _ _ => (pv 10))) pa_nil)) (by rfl))
  (pss_cons (ps_asg (pe_lst (pa_cons (pv 8) (pa_cons (pe_op op_catA (pe_ix ix_list (pv 7) pe_int (fun _ _ => rfl)) (pe_callTy cr_tupleO (by rfl) T.m_tuple (by decide +kernel) (pa_cons (pv 9) pa_nil))) pa_nil))) (pg_sub (pv 2) (pv 4) set_list))
  (pss_one (ps_ret (pe_meth (pe_ix ix_list (pv 1) (pv 4) (fun _ _ => rfl)) T.cl_Marks T.M_Marks_pour (ok_Marks_pour T) (hr.mono (by decide)) T.b_Marks_pour .nil passL (pa_cons (pe_ix ix_list (pv 1) (pv 5) (fun _ _ => rfl)) pa_nil))))))) pss_nil)
  (pss_cons (ps_set (i := 10) nd rfl (Or.inl rfl) (pe_ix ix_list (pv 3) (pe_call (ok__law_draw T) (hr.mono (by decide)) (by rfl) T.g__law_draw T.F__law_draw.kp T.b__law_draw .nil pass0 (pa_cons (pv 0) (pa_cons (pe_callB cr_len (by rfl) T.m_len (by decide +kernel) (pa_cons (pv 3) pa_nil)) pa_nil))) (fun _ _ => rfl)))
  (pss_cons (ps_asg (pe_lst (pa_cons (pe_ix ix_list (pv 7) pe_int (fun _ _ => rfl)) (pa_cons (pe_op op_catA (pe_ix ix_list (pv 7) pe_int (fun _ _ => rfl)) (pe_op op_repT01 (pe_tup (pa_cons (pv 10) pa_nil)) (pe_callTy call_int1 (by rfl) T.m_int (by decide +kernel) (pa_cons (pe_cmpR (op_notInTT hr.units) (pv 10) (pe_ix ix_list (pv 7) pe_int (fun _ _ => rfl)) rfl) pa_nil)))) pa_nil))) (pg_sub (pv 2) (pv 4) set_list))
  (pss_one (ps_ret (pe_meth (pe_ix ix_list (pv 1) (pv 4) (fun _ _ => rfl)) T.cl_Marks T.M_Marks_meet (ok_Marks_meet T) (hr.mono (by decide)) T.b_Marks_meet .nil passL (pa_cons (pv 10) pa_nil))))))))))
theorem ok__law_turn (T : Tx K mg) : FnOk P w K mg base CX0 5 T.f__law_turn T.d__law_turn ["_law_state", "_law_marks_of", "_law_plains", "_law_alphabet_here"] (sp__law_turn K T.c_Letters T.c_Marks) :=
  T.F__law_turn.ok sc__law_turn (fun vs H Q E h => len__law_turn h) (fun cdv A outer s H vs Q E hr h => ⟨t__law_turn K T.c_Letters T.c_Marks, der__law_turn T hr, rd__law_turn T.rc_Letters T.rc_Marks h⟩)
theorem der__law_refused_poured (T : Tx K mg) (TB : ∀ x, x ∈ (["_law_refused_first", "_law_refused_poured", "_law_refused_right"] : List Str) → LamX.TabB base mg (tabC K x) (tabP K x)) {A : Around} {outer : List Env} {s : Shared} {H : Hp} {E : XK} (hr : Room 6 (A.deeper (envOfC "_law_refused_poured" (defScope s__law_refused_poured) s.heap.objs.size T.f__law_refused_poured (.ref (tabC K "_law_refused_poured"))))) :
    PSs (cxOf CX0 P w K mg base n__law_refused_poured "_law_refused_poured" (defScope s__law_refused_poured) T.f__law_refused_poured (.ref (tabC K "_law_refused_poured")) A outer s H E).nox (defBody s__law_refused_poured) (t__law_refused_poured K T.c_Letters T.c_Marks) :=
  have nd := sc__law_refused_poured.nd
  (pss_one (ps_ret (pe_lmF (k := 4) (by rfl) T.g__law_refused T.F__law_refused T.b__law_refused sc__law_refused rfl (by first | exact Or.inl rfl | exact Or.inr (Or.inl rfl)) (fun cdg => by refine gv__law_refused (K := K) (mg := mg) ?_ ?_ T (Nat.le_add_left _ _) <;> rfl) (TB "_law_refused_poured" (by decide)) rfl (hr.mono (by decide)) (LamX.lamS_by (sc := defScope s__law_refused_poured) (by decide +kernel)) rfl (fun _ _ _ _ _ => rfl) (fun A outer s H E f d hr => (pe_meth (pv 0) T.cl_Marks T.M_Marks_pour (ok_Marks_pour T) (hr.mono (by decide)) T.b_Marks_pour .nil lam_passE (pa_cons (pv 1) pa_nil))))))
theorem ok__law_refused_poured (T : Tx K mg) (TB : ∀ x, x ∈ (["_law_refused_first", "_law_refused_poured", "_law_refused_right"] : List Str) → LamX.TabB base mg (tabC K x) (tabP K x)) : FnOk P w K mg base CX0 7 T.f__law_refused_poured T.d__law_refused_poured ["_law_mark", "_law_other"] (sp__law_refused_poured K T.c_Letters T.c_Marks) :=
  T.F__law_refused_poured.okC sc__law_refused_poured (fun vs H Q E h => len__law_refused_poured h) (fun A outer s H vs Q E hr h => ⟨t__law_refused_poured K T.c_Letters T.c_Marks, der__law_refused_poured T TB hr, rd__law_refused_poured T.rc_Letters T.rc_Marks T.rf_NoKeeper T.nk_Marks h⟩)
theorem der__law_refused_first (T : Tx K mg) (TB : ∀ x, x ∈ (["_law_refused_first", "_law_refused_poured", "_law_refused_right"] : List Str) → LamX.TabB base mg (tabC K x) (tabP K x)) {A : Around} {outer : List Env} {s : Shared} {H : Hp} {E : XK} (hr : Room 6 (A.deeper (envOfC "_law_refused_first" (defScope s__law_refused_first) s.heap.objs.size T.f__law_refused_first (.ref (tabC K "_law_refused_first"))))) :
    PSs (cxOf CX0 P w K mg base n__law_refused_first "_law_refused_first" (defScope s__law_refused_first) T.f__law_refused_first (.ref (tabC K "_law_refused_first")) A outer s H E).nox (defBody s__law_refused_first) (t__law_refused_first K T.c_Letters T.c_Marks) :=
  have nd := sc__law_refused_first.nd
  (pss_cons (ps_if (PW.pt (pw_and (pt_cmpR (op_inRngX hr.units) (pv 1) (pe_callTy cr_range2 (by rfl) T.m_range (by decide +kernel) (pa_cons pe_int (pa_cons pe_int pa_nil))) rfl) (pw_and1 (pt_cmpR op_notIsX (pv 1) pe_bl (nomark _))))) (pss_one (ps_ret pe_str)) pss_nil)
  (pss_one (ps_ret (pe_lmF (k := 4) (by rfl) T.g__law_refused T.F__law_refused T.b__law_refused sc__law_refused rfl (by first | exact Or.inl rfl | exact Or.inr (Or.inl rfl)) (fun cdg => by refine gv__law_refused (K := K) (mg := mg) ?_ ?_ T (Nat.le_add_left _ _) <;> rfl) (TB "_law_refused_first" (by decide)) rfl (hr.mono (by decide)) (LamX.lamS_by (sc := defScope s__law_refused_first) (by decide +kernel)) rfl (fun _ _ _ _ _ => rfl) (fun A outer s H E f d hr => (pe_make T.K_Marks (ok_Marks___init__ T) (hr.mono (by decide)) (by rfl) T.g_Marks T.b_Marks___init__ .nil lam_passE (pa_cons (pe_make T.K_Letters (ok_Letters___init__ T) (hr.mono (by decide)) (by rfl) T.g_Letters T.b_Letters___init__ .nil pass0 (pa_cons (pv 0) pa_nil)) (pa_cons (pv 1) pa_nil))))))))
theorem ok__law_refused_first (T : Tx K mg) (TB : ∀ x, x ∈ (["_law_refused_first", "_law_refused_poured", "_law_refused_right"] : List Str) → LamX.TabB base mg (tabC K x) (tabP K x)) : FnOk P w K mg base CX0 7 T.f__law_refused_first T.d__law_refused_first ["_law_alphabet_here", "_law_number"] (sp__law_refused_first K T.c_Letters T.c_Marks) :=
  T.F__law_refused_first.okC sc__law_refused_first (fun vs H Q E h => len__law_refused_first h) (fun A outer s H vs Q E hr h => ⟨t__law_refused_first K T.c_Letters T.c_Marks, der__law_refused_first T TB hr, rd__law_refused_first T.rc_Letters T.rc_Marks T.rf_NoMany h⟩)
theorem der__law_refused_right (T : Tx K mg) (TB : ∀ x, x ∈ (["_law_refused_first", "_law_refused_poured", "_law_refused_right"] : List Str) → LamX.TabB base mg (tabC K x) (tabP K x)) {A : Around} {outer : List Env} {s : Shared} {H : Hp} {E : XK} (hr : Room 7 (A.deeper (envOfC "_law_refused_right" (defScope s__law_refused_right) s.heap.objs.size T.f__law_refused_right (.ref (tabC K "_law_refused_right"))))) :
    PSs (cxOf CX0 P w K mg base n__law_refused_right "_law_refused_right" (defScope s__law_refused_right) T.f__law_refused_right (.ref (tabC K "_law_refused_right")) A outer s H E).nox (defBody s__law_refused_right) (t__law_refused_right K T.c_Letters T.c_Jars T.c_Marks) :=
  have nd := sc__law_refused_right.nd
  (pss_cons (ps_set (i := 4) nd rfl (Or.inr rfl) (pe_ix ix_list (pe_lst (pa_cons pe_int (pa_cons (pe_op op_add (pv 3) pe_int) (pa_cons pe_int (pa_cons pe_bl (pa_cons pe_non (pa_cons pe_str (pa_cons (pe_lst (pa_cons pe_int pa_nil)) (pa_cons (pe_un un_neg pe_int) pa_nil))))))))) (pe_call (ok__law_draw T) (hr.mono (by decide)) (by rfl) T.g__law_draw T.F__law_draw.kp T.b__law_draw .nil pass0 (pa_cons (pv 0) (pa_cons pe_int pa_nil))) (fun _ _ => rfl)))
  (pss_cons (ps_set (i := 5) nd rfl (Or.inr rfl) (pe_ix ix_list (pe_lst (pa_cons pe_str (pa_cons pe_str (pa_cons pe_str (pa_cons pe_non (pa_cons pe_int (pa_cons pe_bl (pa_cons (pe_lst pa_nil) (pa_cons (pe_tup (pa_cons (pe_ix ix_list (pv 2) pe_int (fun _ _ => rfl)) pa_nil)) (pa_cons pe_dnewK (pa_cons (pe_upper (pe_ix ix_list (pv 2) pe_int (fun _ _ => rfl))) pa_nil))))))))))) (pe_call (ok__law_draw T) (hr.mono (by decide)) (by rfl) T.g__law_draw T.F__law_draw.kp T.b__law_draw .nil pass0 (pa_cons (pv 0) (pa_cons pe_int pa_nil))) (fun _ _ => rfl)))
  (pss_cons (ps_set (i := 6) nd rfl (Or.inl rfl) (pe_ifExp (pt_cmpR op_gt (pe_callB cr_len (by rfl) T.m_len (by decide +kernel) (pa_cons (pv 2) pa_nil)) pe_int (nomark _)) (pe_make T.K_Marks (ok_Marks___init__ T) (hr.mono (by decide)) (by rfl) T.g_Marks T.b_Marks___init__ .nil passL (pa_cons (pe_make T.K_Letters (ok_Letters___init__ T) (hr.mono (by decide)) (by rfl) T.g_Letters T.b_Letters___init__ .nil pass0 (pa_cons (pe_revL (pv 2)) pa_nil)) (pa_cons pe_int pa_nil))) pe_non))
  (pss_cons (ps_set (i := 7) nd rfl (Or.inl rfl) (pe_ix ix_list (pe_lst (pa_cons (pv 6) (pa_cons pe_non (pa_cons (pe_make T.K_Jars (ok_Jars___init__ T) (hr.mono (by decide)) (by rfl) T.g_Jars T.b_Jars___init__ .nil passL (pa_cons (pe_make T.K_Letters (ok_Letters___init__ T) (hr.mono (by decide)) (by rfl) T.g_Letters T.b_Letters___init__ .nil pass0 (pa_cons (pv 2) pa_nil)) (pa_cons pe_int pa_nil))) (pa_cons (pe_tup pa_nil) (pa_cons pe_int (pa_cons (pe_make T.K_Letters (ok_Letters___init__ T) (hr.mono (by decide)) (by rfl) T.g_Letters T.b_Letters___init__ .nil pass0 (pa_cons (pv 2) pa_nil)) pa_nil))))))) (pe_call (ok__law_draw T) (hr.mono (by decide)) (by rfl) T.g__law_draw T.F__law_draw.kp T.b__law_draw .nil pass0 (pa_cons (pv 0) (pa_cons pe_int pa_nil))) (fun _ _ => rfl)))
  (pss_cons (ps_if (PW.pt (pw_or (pt_cmpR op_ne (pe_lmF (k := 5) (by rfl) T.g__law_refused T.F__law_refused T.b__law_refused sc__law_refused rfl (by first | exact Or.inl rfl | exact Or.inr (Or.inl rfl)) (fun cdg => by refine gv__law_refused (K := K) (mg := mg) ?_ ?_ T (Nat.le_add_left _ _) <;> rfl) (TB "_law_refused_right" (by decide)) rfl (hr.mono (by decide)) (LamX.lamS_by (sc := defScope s__law_refused_right) (by decide +kernel)) rfl (fun _ _ _ _ _ => rfl) (fun A outer s H E f d hr => (pe_meth (pv 1) T.cl_Marks T.M_Marks_made_smaller (ok_Marks_made_smaller T) (hr.mono (by decide)) T.b_Marks_made_smaller .nil lam_passE (pa_cons (pv 4) pa_nil)))) pe_str (nomark _)) (pw_or1 (pt_cmpR op_ne (pe_call (ok__law_refused_first T TB) (hr.mono (by decide)) (by rfl) T.g__law_refused_first T.F__law_refused_first.kp T.b__law_refused_first .nil pass0 (pa_cons (pv 2) (pa_cons (pv 4) pa_nil))) pe_str (nomark _))))) (pss_one (ps_ret pe_bl)) pss_nil)
  (pss_one (ps_ret (pe_cmpR op_eq (pe_op op_add_str (pe_lmF (k := 5) (by rfl) T.g__law_refused T.F__law_refused T.b__law_refused sc__law_refused rfl (by first | exact Or.inl rfl | exact Or.inr (Or.inl rfl)) (fun cdg => by refine gv__law_refused (K := K) (mg := mg) ?_ ?_ T (Nat.le_add_left _ _) <;> rfl) (TB "_law_refused_right" (by decide)) rfl (hr.mono (by decide)) (LamX.lamS_by (sc := defScope s__law_refused_right) (by decide +kernel)) rfl (fun _ _ _ _ _ => rfl) (fun A outer s H E f d hr => (pe_meth (pv 1) T.cl_Marks T.M_Marks_meet (ok_Marks_meet T) (hr.mono (by decide)) T.b_Marks_meet .nil lam_passE (pa_cons (pv 5) pa_nil)))) (pe_call (ok__law_refused_poured T TB) (hr.mono (by decide)) (by rfl) T.g__law_refused_poured T.F__law_refused_poured.kp T.b__law_refused_poured .nil pass0 (pa_cons (pv 1) (pa_cons (pv 7) pa_nil)))) pe_str (nomark _)))))))))
theorem ok__law_refused_right (T : Tx K mg) (TB : ∀ x, x ∈ (["_law_refused_first", "_law_refused_poured", "_law_refused_right"] : List Str) → LamX.TabB base mg (tabC K x) (tabP K x)) : FnOk P w K mg base CX0 8 T.f__law_refused_right T.d__law_refused_right ["_law_state", "_law_mark", "_law_alphabet_here", "_law_wide"] (sp__law_refused_right K T.c_Letters T.c_Jars T.c_Marks) :=
  T.F__law_refused_right.okC sc__law_refused_right (fun vs H Q E h => len__law_refused_right h) (fun A outer s H vs Q E hr h => ⟨t__law_refused_right K T.c_Letters T.c_Jars T.c_Marks, der__law_refused_right T TB hr, rd__law_refused_right T.rc_Letters T.rc_Jars T.rc_Marks T.rf_NoMany T.rf_NoLetter T.nk_Marks T.wd__law_refused_first__law_refused_poured T.wd__law_refused_first__law_refused_right T.wd__law_refused_poured__law_refused_right h⟩)
theorem der_law (T : Tx K mg) (TB : ∀ x, x ∈ (["_law_refused_first", "_law_refused_poured", "_law_refused_right"] : List Str) → LamX.TabB base mg (tabC K x) (tabP K x)) {cdv : Value} {A : Around} {outer : List Env} {s : Shared} {H : Hp} {E : XK} (hgd : A.guards = some []) (hr : Room 8 (A.deeper (envOfC "law" (defScope s_law) s.heap.objs.size T.f_law cdv))) :
    PSs (cxOf CX0 P w K mg base n_law "law" (defScope s_law) T.f_law cdv A outer s H E).nox (defBody s_law) (t_law K T.c_Letters T.c_Jars T.c_Marks) :=
  have nd := sc_law.nd
  (pss_cons (ps_set (i := 1) nd rfl (Or.inr rfl) (pe_op op_cat (pe_call (ok__law_begun T) (hr.mono (by decide)) (by rfl) T.g__law_begun T.F__law_begun.kp T.b__law_begun .nil pass0 (pa_cons (pv 0) pa_nil)) (pe_lst (pa_cons pe_int pa_nil))))
  (pss_cons (ps_set (i := 2) nd rfl (Or.inr rfl) (pe_call (ok__law_alphabet T) (hr.mono (by decide)) (by rfl) T.g__law_alphabet T.F__law_alphabet.kp T.b__law_alphabet .nil pass0 (pa_cons (pv 1) (pa_cons pe_int (pa_cons pe_int pa_nil)))))
  (pss_cons (ps_setLc (i := 3) (own := [("_law_k", 4)]) rfl nd rfl rfl (sw_true rfl rfl rfl (by decide +kernel)) (pi_range1 rfl T.m_range (pa_cons (pe_op op_add pe_int (pe_call (ok__law_draw T) (hr.mono (by decide)) (by rfl) T.g__law_draw T.F__law_draw.kp T.b__law_draw .nil pass0 (pa_cons (pv 1) (pa_cons pe_int pa_nil)))) pa_nil)) (blkOk_by (own := [("_law_k", 4)]) (N := n_law) (sc := defScope s_law) (by decide +kernel)) (fun _ _ _ _ _ => (pg_name (i := 4) nd rfl (by first | exact Or.inl rfl | exact Or.inr rfl))) (fun _ _ _ _ _ => pts_nil) (fun _ _ _ _ _ => (pe_op op_add pe_int (pe_call (ok__law_draw T) (hr.mono (by decide)) (by rfl) T.g__law_draw T.F__law_draw.kp T.b__law_draw .nil pass0 (pa_cons (pv 1) (pa_cons pe_int pa_nil))))))
  (pss_cons (ps_par (i := 5) (j := 6) rfl nd rfl rfl (by decide) rfl rfl (pa_cons (pe_lc (own := [("_law_wide", 7)]) rfl nd (pi_list (pv 3)) (blkOk_by (own := [("_law_wide", 7)]) (N := n_law) (sc := defScope s_law) (by decide +kernel)) (fun _ _ _ _ _ => (pg_name (i := 7) nd rfl (by first | exact Or.inl rfl | exact Or.inr rfl))) (fun _ _ _ _ _ => pts_nil) (fun _ _ _ _ _ => (pe_make T.K_Marks (ok_Marks___init__ T) (hr.mono (by decide)) (by rfl) T.g_Marks T.b_Marks___init__ .nil passL (pa_cons (pe_make T.K_Letters (ok_Letters___init__ T) (hr.mono (by decide)) (by rfl) T.g_Letters T.b_Letters___init__ .nil pass0 (pa_cons (pv 2) pa_nil)) (pa_cons (pv 7) pa_nil))))) (pa_cons (pe_lc (own := [("_law_wide", 7)]) rfl nd (pi_list (pv 3)) (blkOk_by (own := [("_law_wide", 7)]) (N := n_law) (sc := defScope s_law) (by decide +kernel)) (fun _ _ _ _ _ => (pg_name (i := 7) nd rfl (by first | exact Or.inl rfl | exact Or.inr rfl))) (fun _ _ _ _ _ => pts_nil) (fun _ _ _ _ _ => (pe_lst (pa_cons (pv 7) (pa_cons (pe_tup pa_nil) pa_nil))))) pa_nil)) (by rfl))
  (pss_cons (ps_for PassesOwn.never rfl (pi_range1 rfl T.m_range (pa_cons (pe_callB (cr_max2 rfl) (by rfl) T.m_max (by decide +kernel) (pa_cons pe_int (pa_cons (pe_callB (cr_min2 rfl) (by rfl) T.m_min (by decide +kernel) (pa_cons (pe_callB cr_len (by rfl) T.m_len (by decide +kernel) (pa_cons (pv 0) pa_nil)) (pa_cons pe_int pa_nil))) pa_nil))) pa_nil)) (pg_name (i := 8) nd rfl (by first | exact Or.inl rfl | exact Or.inr rfl))
  (pss_cons (ps_set (i := 9) nd rfl (Or.inl rfl) (pe_meth0 (pe_ix ix_list (pv 5) pe_int (fun _ _ => rfl)) T.cl_Marks T.M_Marks_twin (ok_Marks_twin T) (hr.mono (by decide)) T.b_Marks_twin .nil pass0))
  (pss_cons (ps_if (PW.pt (pw_or (pt_cmpR (op_insNe (ok_Marks___eq__ T) (hr.mono (by decide)) T.M_Marks___eq__ T.ne_Marks T.rc_Marks.i.hm T.b_Marks___eq__ pass0) (pv 9) (pe_ix ix_list (pv 5) pe_int (fun _ _ => rfl)) (nomark _)) (pw_or1 (pt_cmpR op_notN (pe_call (ok__law_turn T) (hr.mono (by decide)) (by rfl) T.g__law_turn T.F__law_turn.kp T.b__law_turn .nil pass0 (pa_cons (pv 1) (pa_cons (pv 5) (pa_cons (pv 6) (pa_cons (pv 2) pa_nil))))) pe_non (nomark _))))) (pss_one (ps_ret pe_bl)) pss_nil)
  (pss_cons (ps_if (pt_cmpR op_ne (pe_cmpR (op_insEq (ok_Marks___eq__ T) (hr.mono (by decide)) T.M_Marks___eq__ T.b_Marks___eq__ pass0) (pv 9) (pe_ix ix_list (pv 5) pe_int (fun _ _ => rfl)) (nomark _)) (pe_cmpR (op_eqT hr.units) (pe_tup (pa_cons (pe_meth0 (pv 9) T.cl_Marks T.M_Marks_many (ok_Marks_many T) (hr.mono (by decide)) T.b_Marks_many .nil pass0) (pa_cons (pe_meth0 (pv 9) T.cl_Marks T.M_Marks_kept (ok_Marks_kept T) (hr.mono (by decide)) T.b_Marks_kept .nil pass0) pa_nil))) (pe_tup (pa_cons (pe_meth0 (pe_ix ix_list (pv 5) pe_int (fun _ _ => rfl)) T.cl_Marks T.M_Marks_many (ok_Marks_many T) (hr.mono (by decide)) T.b_Marks_many .nil pass0) (pa_cons (pe_meth0 (pe_ix ix_list (pv 5) pe_int (fun _ _ => rfl)) T.cl_Marks T.M_Marks_kept (ok_Marks_kept T) (hr.mono (by decide)) T.b_Marks_kept .nil pass0) pa_nil))) (nomark _)) (nomark _)) (pss_one (ps_ret pe_bl)) pss_nil)
  (pss_cons (ps_if (pt_not (pt_val (pe_call (ok__law_refused_right T TB) (hr.mono (by decide)) (by rfl) T.g__law_refused_right T.F__law_refused_right.kp T.b__law_refused_right .nil pass0 (pa_cons (pv 1) (pa_cons (pe_ix ix_list (pv 5) pe_int (fun _ _ => rfl)) (pa_cons (pv 2) (pa_cons (pe_ix ix_list (pe_ix ix_list (pv 6) pe_int (fun _ _ => rfl)) pe_int (fun _ _ => rfl)) pa_nil))))))) (pss_one (ps_ret pe_bl)) pss_nil)
  (pss_cons (ps_expr (pe_meth (pv 9) T.cl_Marks T.M_Marks_meet (ok_Marks_meet T) (hr.mono (by decide)) T.b_Marks_meet .nil passL (pa_cons (pe_ix ix_list (pv 2) (pe_un un_neg pe_int) (fun _ _ => rfl)) pa_nil)))
  (pss_one (ps_if (pt_not (pt_val (pe_callB (cr_all rfl) (by rfl) T.m_all (by decide +kernel) (pa_cons (pe_lc (own := [("_law_mark", 10), ("_law_plain", 11)]) rfl nd (pi_zip rfl T.m_zip (pa_cons (pv 5) (pa_cons (pv 6) pa_nil))) (blkOk_by (own := [("_law_mark", 10), ("_law_plain", 11)]) (N := n_law) (sc := defScope s_law) (by decide +kernel)) (fun _ _ _ _ _ => (pg_tup rfl (pgs_cons (pg_name (i := 10) nd rfl (by first | exact Or.inl rfl | exact Or.inr rfl)) (pgs_cons (pg_name (i := 11) nd rfl (by first | exact Or.inl rfl | exact Or.inr rfl)) pgs_nil)))) (fun _ _ _ _ _ => pts_nil) (fun _ _ _ _ _ => (pe_callG (ok__law_stands T) hgd (hr.mono (by decide)) (by rfl) T.g__law_stands T.F__law_stands.kp T.b__law_stands pass0 (pa_cons (pv 10) (pa_cons (pv 2) (pa_cons (pv 11) pa_nil)))))) pa_nil)))) (pss_one (ps_ret pe_bl)) pss_nil))))))))
  (pss_cons (ps_par (i := 12) (j := 7) rfl nd rfl rfl (by decide) rfl rfl (pa_cons (pe_makeKE T.K_Marks (ok_Marks___init__ T) (hr.mono (by decide)) (by rfl) T.g_Marks T.kn_Marks___init___1_letters_many passL (pk_cons (pe_make T.K_Letters (ok_Letters___init__ T) (hr.mono (by decide)) (by rfl) T.g_Letters T.b_Letters___init__ .nil pass0 (pa_cons (pv 2) pa_nil)) (pk_cons (pe_ix ix_list (pv 3) pe_int (fun _ _ => rfl)) pk_nil))) (pa_cons (pe_ix ix_list (pv 3) pe_int (fun _ _ => rfl)) pa_nil)) (by rfl))
  (pss_cons (ps_if (PW.pt (pw_or (pt_cmpR op_ne (pe_cmpR (op_insEq (ok_Marks___eq__ T) (hr.mono (by decide)) T.M_Marks___eq__ T.b_Marks___eq__ pass0) (pv 12) (pe_make T.K_Marks (ok_Marks___init__ T) (hr.mono (by decide)) (by rfl) T.g_Marks T.b_Marks___init__ .nil passL (pa_cons (pe_make T.K_Letters (ok_Letters___init__ T) (hr.mono (by decide)) (by rfl) T.g_Letters T.b_Letters___init__ .nil pass0 (pa_cons (pe_revL (pv 2)) pa_nil)) (pa_cons (pv 7) pa_nil))) (nomark _)) (pe_cmpR op_eq (pe_callB cr_len (by rfl) T.m_len (by decide +kernel) (pa_cons (pv 2) pa_nil)) pe_int (nomark _)) (nomark _)) (pw_or1 (pt_cmpR (op_insNe (ok_Marks___eq__ T) (hr.mono (by decide)) T.M_Marks___eq__ T.ne_Marks T.rc_Marks.i.hm T.b_Marks___eq__ pass0) (pv 12) (pe_make T.K_Marks (ok_Marks___init__ T) (hr.mono (by decide)) (by rfl) T.g_Marks T.b_Marks___init__ .nil passL (pa_cons (pe_make T.K_Letters (ok_Letters___init__ T) (hr.mono (by decide)) (by rfl) T.g_Letters T.b_Letters___init__ .nil pass0 (pa_cons (pv 2) pa_nil)) (pa_cons (pv 7) pa_nil))) (nomark _))))) (pss_one (ps_ret pe_bl)) pss_nil)
  (pss_cons (ps_set (i := 13) nd rfl (Or.inl rfl) (pe_ix ix_list (pe_lc (own := [("_law_word_here", 14)]) rfl nd (pi_list (pe_split pe_str pe_str)) (blkOk_by (own := [("_law_word_here", 14)]) (N := n_law) (sc := defScope s_law) (by decide +kernel)) (fun _ _ _ _ _ => (pg_name (i := 14) nd rfl (by first | exact Or.inl rfl | exact Or.inr rfl))) (fun _ _ _ _ _ => (pts_one (pt_cmpR (op_notInTL hr.units) (pv 14) (pv 2) rfl))) (fun _ _ _ _ _ => (pv 14))) pe_int (fun _ _ => rfl)))
  (pss_cons (ps_if (pt_cmpR op_lt (pe_callB cr_len (by rfl) T.m_len (by decide +kernel) (pa_cons (pv 2) pa_nil)) pe_int (nomark _)) (pss_cons (ps_set (i := 15) nd rfl (Or.inl rfl) (pe_make T.K_Marks (ok_Marks___init__ T) (hr.mono (by decide)) (by rfl) T.g_Marks T.b_Marks___init__ .nil passL (pa_cons (pe_make T.K_Letters (ok_Letters___init__ T) (hr.mono (by decide)) (by rfl) T.g_Letters T.b_Letters___init__ .nil pass0 (pa_cons (pe_op op_cat (pv 2) (pe_lst (pa_cons (pv 13) pa_nil))) pa_nil)) (pa_cons (pv 7) pa_nil))))
  (pss_cons (ps_expr (pe_methKw (pv 15) T.cl_Marks T.M_Marks_meet (ok_Marks_meet T) (hr.mono (by decide)) T.km_Marks_meet_letter passL (pk_cons (pe_ix ix_list (pv 2) pe_int (fun _ _ => rfl)) pk_nil)))
  (pss_cons (ps_expr (pe_meth (pv 12) T.cl_Marks T.M_Marks_meet (ok_Marks_meet T) (hr.mono (by decide)) T.b_Marks_meet .nil passL (pa_cons (pe_ix ix_list (pv 2) pe_int (fun _ _ => rfl)) pa_nil)))
  (pss_one (ps_if (PW.pt (pw_or (pt_cmpR (op_insEq (ok_Marks___eq__ T) (hr.mono (by decide)) T.M_Marks___eq__ T.b_Marks___eq__ pass0) (pv 15) (pv 12) (nomark _)) (pw_or (pt_cmpR (op_insEq (ok_Marks___eq__ T) (hr.mono (by decide)) T.M_Marks___eq__ T.b_Marks___eq__ pass0) (pv 12) (pv 15) (nomark _)) (pw_or1 (pt_cmpR (op_neT hr.units) (pe_meth0 (pv 15) T.cl_Marks T.M_Marks_kept (ok_Marks_kept T) (hr.mono (by decide)) T.b_Marks_kept .nil pass0) (pe_meth0 (pv 12) T.cl_Marks T.M_Marks_kept (ok_Marks_kept T) (hr.mono (by decide)) T.b_Marks_kept .nil pass0) (nomark _)))))) (pss_one (ps_ret pe_bl)) pss_nil))))) pss_nil)
  (pss_one (ps_ret (pe_and (pe_cmpR (op_insNeA (ok_Marks___eq__ T) (hr.mono (by decide)) T.M_Marks___eq__ T.ne_Marks T.rc_Marks.i.hm T.b_Marks___eq__ pass0) (pe_ix ix_list (pv 5) pe_int (fun _ _ => rfl)) (pe_make T.K_Jars (ok_Jars___init__ T) (hr.mono (by decide)) (by rfl) T.g_Jars T.b_Jars___init__ .nil passL (pa_cons (pe_make T.K_Letters (ok_Letters___init__ T) (hr.mono (by decide)) (by rfl) T.g_Letters T.b_Letters___init__ .nil pass0 (pa_cons (pv 2) pa_nil)) (pa_cons (pe_ix ix_list (pe_ix ix_list (pv 6) pe_int (fun _ _ => rfl)) pe_int (fun _ _ => rfl)) pa_nil))) (nomark _)) (pe_one (pe_cmpR (op_insNeA (ok_Marks___eq__ T) (hr.mono (by decide)) T.M_Marks___eq__ T.ne_Marks T.rc_Marks.i.hm T.b_Marks___eq__ pass0) (pe_ix ix_list (pv 5) pe_int (fun _ _ => rfl)) (pv 2) (nomark _)))))))))))))))
theorem ok_law (T : Tx K mg) (TB : ∀ x, x ∈ (["_law_refused_first", "_law_refused_poured", "_law_refused_right"] : List Str) → LamX.TabB base mg (tabC K x) (tabP K x)) : FnG P w K mg base 9 T.f_law T.d_law ["_law_script"] (sp_law K) :=
  okG T.F_law sc_law (fun vs H Q E h => len_law h) (fun cdv A hgd outer s H vs Q E hr h => ⟨t_law K T.c_Letters T.c_Jars T.c_Marks, der_law T TB hgd hr, rd_law T.rc_Letters T.rc_Jars T.rc_Marks T.nk_Marks T.ns_Marks h⟩)

end

theorem all_mk {l : PySem.W.OpenLaw} {w : World} {K : Fg} {h : Heap} {mg : Str → Option Value} {fa c_Letters c_Jars c_Marks c_LeftError c_NoCount c_NoDeed c_NoFeed c_NoKeeper c_NoLetter c_NoLetters c_NoMany c_NoName c_NoNumber c_NoPast c_NoTally c_NoTimes f_NoLetter___init__ f_is_whole f_is_letter f_Letters___init__ f_Letters_ranked f_Letters___eq__ f_Letters_has f_Letters_rank f_rising f_need_many f_Jars___init__ f_Marks___init__ f_Marks_kept f_Marks_many f_Marks_letters f_Marks___eq__ f_Marks_full f_Marks_keep f_Marks_meet f_Marks_made_smaller f_Marks_pour f_Marks_twin f__law_begun f__law_draw f__law_alphabet f__law_least f__law_word f__law_refused f__law_stands f__law_turn f__law_refused_poured cc__law_refused_poured pp__law_refused_poured f__law_refused_first cc__law_refused_first pp__law_refused_first f__law_refused_right cc__law_refused_right pp__law_refused_right f_law : Addr} (X : K.In h) (G : h.Ns mainGlobals mg) (hfa : mg "law" = some (.ref fa))
    {tc_MOST_JARS : Tok} {od_NoLetter___init__ an_NoLetter___init__ od_is_whole an_is_whole od_is_letter an_is_letter od_Letters___init__ an_Letters___init__ od_Letters_ranked an_Letters_ranked od_Letters___eq__ an_Letters___eq__ od_Letters_has an_Letters_has od_Letters_rank an_Letters_rank od_rising an_rising od_need_many an_need_many od_Jars___init__ an_Jars___init__ od_Marks___init__ an_Marks___init__ od_Marks_kept an_Marks_kept od_Marks_many an_Marks_many od_Marks_letters an_Marks_letters od_Marks___eq__ an_Marks___eq__ od_Marks_full an_Marks_full od_Marks_keep an_Marks_keep od_Marks_meet an_Marks_meet od_Marks_made_smaller an_Marks_made_smaller od_Marks_pour an_Marks_pour od_Marks_twin an_Marks_twin od__law_begun an__law_begun od__law_draw an__law_draw od__law_alphabet an__law_alphabet od__law_least an__law_least od__law_word an__law_word od__law_refused an__law_refused od__law_stands an__law_stands od__law_turn an__law_turn od__law_refused_poured an__law_refused_poured oe__law_refused_poured od__law_refused_first an__law_refused_first oe__law_refused_first od__law_refused_right an__law_refused_right oe__law_refused_right od_law an_law : Option Addr} {sl_NoLetter___init__ sl_is_whole sl_is_letter sl_Letters___init__ sl_Letters_ranked sl_Letters___eq__ sl_Letters_has sl_Letters_rank sl_rising sl_need_many sl_Jars___init__ sl_Marks___init__ sl_Marks_kept sl_Marks_many sl_Marks_letters sl_Marks___eq__ sl_Marks_full sl_Marks_keep sl_Marks_meet sl_Marks_made_smaller sl_Marks_pour sl_Marks_twin sl__law_begun sl__law_draw sl__law_alphabet sl__law_least sl__law_word sl__law_refused sl__law_stands sl__law_turn sl__law_refused_poured sv__law_refused_poured sl__law_refused_first sv__law_refused_first sl__law_refused_right sv__law_refused_right sl_law : Array (Option Value)} {oc_NoLetter___init__ kV_NoLetter___init__ dc_NoLetter___init__ pm_NoLetter___init__ cd_NoLetter___init__ ct_NoLetter___init__ oc_is_whole kV_is_whole dc_is_whole pm_is_whole cd_is_whole ct_is_whole oc_is_letter kV_is_letter dc_is_letter pm_is_letter cd_is_letter ct_is_letter oc_Letters___init__ kV_Letters___init__ dc_Letters___init__ pm_Letters___init__ cd_Letters___init__ ct_Letters___init__ oc_Letters_ranked kV_Letters_ranked dc_Letters_ranked pm_Letters_ranked cd_Letters_ranked ct_Letters_ranked oc_Letters___eq__ kV_Letters___eq__ dc_Letters___eq__ pm_Letters___eq__ cd_Letters___eq__ ct_Letters___eq__ oc_Letters_has kV_Letters_has dc_Letters_has pm_Letters_has cd_Letters_has ct_Letters_has oc_Letters_rank kV_Letters_rank dc_Letters_rank pm_Letters_rank cd_Letters_rank ct_Letters_rank oc_rising kV_rising dc_rising pm_rising cd_rising ct_rising oc_need_many kV_need_many dc_need_many pm_need_many cd_need_many ct_need_many oc_Jars___init__ kV_Jars___init__ dc_Jars___init__ pm_Jars___init__ cd_Jars___init__ ct_Jars___init__ oc_Marks___init__ kV_Marks___init__ dc_Marks___init__ pm_Marks___init__ cd_Marks___init__ ct_Marks___init__ oc_Marks_kept kV_Marks_kept dc_Marks_kept pm_Marks_kept cd_Marks_kept ct_Marks_kept oc_Marks_many kV_Marks_many dc_Marks_many pm_Marks_many cd_Marks_many ct_Marks_many oc_Marks_letters kV_Marks_letters dc_Marks_letters pm_Marks_letters cd_Marks_letters ct_Marks_letters oc_Marks___eq__ kV_Marks___eq__ dc_Marks___eq__ pm_Marks___eq__ cd_Marks___eq__ ct_Marks___eq__ oc_Marks_full kV_Marks_full dc_Marks_full pm_Marks_full cd_Marks_full ct_Marks_full oc_Marks_keep kV_Marks_keep dc_Marks_keep pm_Marks_keep cd_Marks_keep ct_Marks_keep oc_Marks_meet kV_Marks_meet dc_Marks_meet pm_Marks_meet cd_Marks_meet ct_Marks_meet oc_Marks_made_smaller kV_Marks_made_smaller dc_Marks_made_smaller pm_Marks_made_smaller cd_Marks_made_smaller ct_Marks_made_smaller oc_Marks_pour kV_Marks_pour dc_Marks_pour pm_Marks_pour cd_Marks_pour ct_Marks_pour oc_Marks_twin kV_Marks_twin dc_Marks_twin pm_Marks_twin cd_Marks_twin ct_Marks_twin oc__law_begun kV__law_begun dc__law_begun pm__law_begun cd__law_begun ct__law_begun oc__law_draw kV__law_draw dc__law_draw pm__law_draw cd__law_draw ct__law_draw oc__law_alphabet kV__law_alphabet dc__law_alphabet pm__law_alphabet cd__law_alphabet ct__law_alphabet oc__law_least kV__law_least dc__law_least pm__law_least cd__law_least ct__law_least oc__law_word kV__law_word dc__law_word pm__law_word cd__law_word ct__law_word oc__law_refused kV__law_refused dc__law_refused pm__law_refused cd__law_refused ct__law_refused oc__law_stands kV__law_stands dc__law_stands pm__law_stands cd__law_stands ct__law_stands oc__law_turn kV__law_turn dc__law_turn pm__law_turn cd__law_turn ct__law_turn oc__law_refused_poured kV__law_refused_poured dc__law_refused_poured pm__law_refused_poured ct__law_refused_poured oo__law_refused_poured oc__law_refused_first kV__law_refused_first dc__law_refused_first pm__law_refused_first ct__law_refused_first oo__law_refused_first oc__law_refused_right kV__law_refused_right dc__law_refused_right pm__law_refused_right ct__law_refused_right oo__law_refused_right oc_law kV_law dc_law pm_law cd_law ct_law : Value} {vv__law_refused_poured vv__law_refused_first vv__law_refused_right : Array Value}
    (z_isinstance : PySem.W.nsIn K mainGlobals "isinstance" = some none)
    (z_int : PySem.W.nsIn K mainGlobals "int" = some none)
    (z_bool : PySem.W.nsIn K mainGlobals "bool" = some none)
    (z_str : PySem.W.nsIn K mainGlobals "str" = some none)
    (z_len : PySem.W.nsIn K mainGlobals "len" = some none)
    (z_all : PySem.W.nsIn K mainGlobals "all" = some none)
    (z_list : PySem.W.nsIn K mainGlobals "list" = some none)
    (z_tuple : PySem.W.nsIn K mainGlobals "tuple" = some none)
    (z_set : PySem.W.nsIn K mainGlobals "set" = some none)
    (z_enumerate : PySem.W.nsIn K mainGlobals "enumerate" = some none)
    (z_sorted : PySem.W.nsIn K mainGlobals "sorted" = some none)
    (z_min : PySem.W.nsIn K mainGlobals "min" = some none)
    (z_abs : PySem.W.nsIn K mainGlobals "abs" = some none)
    (z_range : PySem.W.nsIn K mainGlobals "range" = some none)
    (z_ValueError : PySem.W.nsIn K mainGlobals "ValueError" = some none)
    (z_repr : PySem.W.nsIn K mainGlobals "repr" = some none)
    (z_max : PySem.W.nsIn K mainGlobals "max" = some none)
    (z_zip : PySem.W.nsIn K mainGlobals "zip" = some none)
    (l_NoLetter___init__ : K.lookup f_NoLetter___init__ = some ⟨oc_NoLetter___init__, od_NoLetter___init__, .func (PySem.W.fnOf "__init__" "NoLetter.__init__" (defArgs s_NoLetter___init__) (defBody s_NoLetter___init__) (defScope s_NoLetter___init__) .none kV_NoLetter___init__ dc_NoLetter___init__ pm_NoLetter___init__ an_NoLetter___init__ cd_NoLetter___init__ ct_NoLetter___init__), sl_NoLetter___init__⟩)
    (c_NoLetter___init__ : PySem.W.codeIn K cd_NoLetter___init__ "NoLetter.__init__" = true)
    (k_NoLetter___init__ : PySem.W.keepIn K (.ref f_NoLetter___init__) = true)
    (a_is_whole : PySem.W.nsIn K mainGlobals "is_whole" = some (some (.ref f_is_whole)))
    (l_is_whole : K.lookup f_is_whole = some ⟨oc_is_whole, od_is_whole, .func (PySem.W.fnOf "is_whole" "is_whole" (defArgs s_is_whole) (defBody s_is_whole) (defScope s_is_whole) .none kV_is_whole dc_is_whole pm_is_whole an_is_whole cd_is_whole ct_is_whole), sl_is_whole⟩)
    (c_is_whole : PySem.W.codeIn K cd_is_whole "is_whole" = true)
    (k_is_whole : PySem.W.keepIn K (.ref f_is_whole) = true)
    (a_is_letter : PySem.W.nsIn K mainGlobals "is_letter" = some (some (.ref f_is_letter)))
    (l_is_letter : K.lookup f_is_letter = some ⟨oc_is_letter, od_is_letter, .func (PySem.W.fnOf "is_letter" "is_letter" (defArgs s_is_letter) (defBody s_is_letter) (defScope s_is_letter) .none kV_is_letter dc_is_letter pm_is_letter an_is_letter cd_is_letter ct_is_letter), sl_is_letter⟩)
    (c_is_letter : PySem.W.codeIn K cd_is_letter "is_letter" = true)
    (k_is_letter : PySem.W.keepIn K (.ref f_is_letter) = true)
    (l_Letters___init__ : K.lookup f_Letters___init__ = some ⟨oc_Letters___init__, od_Letters___init__, .func (PySem.W.fnOf "__init__" "Letters.__init__" (defArgs s_Letters___init__) (defBody s_Letters___init__) (defScope s_Letters___init__) .none kV_Letters___init__ dc_Letters___init__ pm_Letters___init__ an_Letters___init__ cd_Letters___init__ ct_Letters___init__), sl_Letters___init__⟩)
    (c_Letters___init__ : PySem.W.codeIn K cd_Letters___init__ "Letters.__init__" = true)
    (k_Letters___init__ : PySem.W.keepIn K (.ref f_Letters___init__) = true)
    (l_Letters_ranked : K.lookup f_Letters_ranked = some ⟨oc_Letters_ranked, od_Letters_ranked, .func (PySem.W.fnOf "ranked" "Letters.ranked" (defArgs s_Letters_ranked) (defBody s_Letters_ranked) (defScope s_Letters_ranked) .none kV_Letters_ranked dc_Letters_ranked pm_Letters_ranked an_Letters_ranked cd_Letters_ranked ct_Letters_ranked), sl_Letters_ranked⟩)
    (c_Letters_ranked : PySem.W.codeIn K cd_Letters_ranked "Letters.ranked" = true)
    (k_Letters_ranked : PySem.W.keepIn K (.ref f_Letters_ranked) = true)
    (l_Letters___eq__ : K.lookup f_Letters___eq__ = some ⟨oc_Letters___eq__, od_Letters___eq__, .func (PySem.W.fnOf "__eq__" "Letters.__eq__" (defArgs s_Letters___eq__) (defBody s_Letters___eq__) (defScope s_Letters___eq__) .none kV_Letters___eq__ dc_Letters___eq__ pm_Letters___eq__ an_Letters___eq__ cd_Letters___eq__ ct_Letters___eq__), sl_Letters___eq__⟩)
    (c_Letters___eq__ : PySem.W.codeIn K cd_Letters___eq__ "Letters.__eq__" = true)
    (k_Letters___eq__ : PySem.W.keepIn K (.ref f_Letters___eq__) = true)
    (l_Letters_has : K.lookup f_Letters_has = some ⟨oc_Letters_has, od_Letters_has, .func (PySem.W.fnOf "has" "Letters.has" (defArgs s_Letters_has) (defBody s_Letters_has) (defScope s_Letters_has) .none kV_Letters_has dc_Letters_has pm_Letters_has an_Letters_has cd_Letters_has ct_Letters_has), sl_Letters_has⟩)
    (c_Letters_has : PySem.W.codeIn K cd_Letters_has "Letters.has" = true)
    (k_Letters_has : PySem.W.keepIn K (.ref f_Letters_has) = true)
    (l_Letters_rank : K.lookup f_Letters_rank = some ⟨oc_Letters_rank, od_Letters_rank, .func (PySem.W.fnOf "rank" "Letters.rank" (defArgs s_Letters_rank) (defBody s_Letters_rank) (defScope s_Letters_rank) .none kV_Letters_rank dc_Letters_rank pm_Letters_rank an_Letters_rank cd_Letters_rank ct_Letters_rank), sl_Letters_rank⟩)
    (c_Letters_rank : PySem.W.codeIn K cd_Letters_rank "Letters.rank" = true)
    (k_Letters_rank : PySem.W.keepIn K (.ref f_Letters_rank) = true)
    (a_rising : PySem.W.nsIn K mainGlobals "rising" = some (some (.ref f_rising)))
    (l_rising : K.lookup f_rising = some ⟨oc_rising, od_rising, .func (PySem.W.fnOf "rising" "rising" (defArgs s_rising) (defBody s_rising) (defScope s_rising) .none kV_rising dc_rising pm_rising an_rising cd_rising ct_rising), sl_rising⟩)
    (c_rising : PySem.W.codeIn K cd_rising "rising" = true)
    (k_rising : PySem.W.keepIn K (.ref f_rising) = true)
    (a_need_many : PySem.W.nsIn K mainGlobals "need_many" = some (some (.ref f_need_many)))
    (l_need_many : K.lookup f_need_many = some ⟨oc_need_many, od_need_many, .func (PySem.W.fnOf "need_many" "need_many" (defArgs s_need_many) (defBody s_need_many) (defScope s_need_many) .none kV_need_many dc_need_many pm_need_many an_need_many cd_need_many ct_need_many), sl_need_many⟩)
    (c_need_many : PySem.W.codeIn K cd_need_many "need_many" = true)
    (k_need_many : PySem.W.keepIn K (.ref f_need_many) = true)
    (l_Jars___init__ : K.lookup f_Jars___init__ = some ⟨oc_Jars___init__, od_Jars___init__, .func (PySem.W.fnOf "__init__" "Jars.__init__" (defArgs s_Jars___init__) (defBody s_Jars___init__) (defScope s_Jars___init__) .none kV_Jars___init__ dc_Jars___init__ pm_Jars___init__ an_Jars___init__ cd_Jars___init__ ct_Jars___init__), sl_Jars___init__⟩)
    (c_Jars___init__ : PySem.W.codeIn K cd_Jars___init__ "Jars.__init__" = true)
    (k_Jars___init__ : PySem.W.keepIn K (.ref f_Jars___init__) = true)
    (l_Marks___init__ : K.lookup f_Marks___init__ = some ⟨oc_Marks___init__, od_Marks___init__, .func (PySem.W.fnOf "__init__" "Marks.__init__" (defArgs s_Marks___init__) (defBody s_Marks___init__) (defScope s_Marks___init__) .none kV_Marks___init__ dc_Marks___init__ pm_Marks___init__ an_Marks___init__ cd_Marks___init__ ct_Marks___init__), sl_Marks___init__⟩)
    (c_Marks___init__ : PySem.W.codeIn K cd_Marks___init__ "Marks.__init__" = true)
    (k_Marks___init__ : PySem.W.keepIn K (.ref f_Marks___init__) = true)
    (l_Marks_kept : K.lookup f_Marks_kept = some ⟨oc_Marks_kept, od_Marks_kept, .func (PySem.W.fnOf "kept" "Marks.kept" (defArgs s_Marks_kept) (defBody s_Marks_kept) (defScope s_Marks_kept) .none kV_Marks_kept dc_Marks_kept pm_Marks_kept an_Marks_kept cd_Marks_kept ct_Marks_kept), sl_Marks_kept⟩)
    (c_Marks_kept : PySem.W.codeIn K cd_Marks_kept "Marks.kept" = true)
    (k_Marks_kept : PySem.W.keepIn K (.ref f_Marks_kept) = true)
    (l_Marks_many : K.lookup f_Marks_many = some ⟨oc_Marks_many, od_Marks_many, .func (PySem.W.fnOf "many" "Marks.many" (defArgs s_Marks_many) (defBody s_Marks_many) (defScope s_Marks_many) .none kV_Marks_many dc_Marks_many pm_Marks_many an_Marks_many cd_Marks_many ct_Marks_many), sl_Marks_many⟩)
    (c_Marks_many : PySem.W.codeIn K cd_Marks_many "Marks.many" = true)
    (k_Marks_many : PySem.W.keepIn K (.ref f_Marks_many) = true)
    (l_Marks_letters : K.lookup f_Marks_letters = some ⟨oc_Marks_letters, od_Marks_letters, .func (PySem.W.fnOf "letters" "Marks.letters" (defArgs s_Marks_letters) (defBody s_Marks_letters) (defScope s_Marks_letters) .none kV_Marks_letters dc_Marks_letters pm_Marks_letters an_Marks_letters cd_Marks_letters ct_Marks_letters), sl_Marks_letters⟩)
    (c_Marks_letters : PySem.W.codeIn K cd_Marks_letters "Marks.letters" = true)
    (k_Marks_letters : PySem.W.keepIn K (.ref f_Marks_letters) = true)
    (l_Marks___eq__ : K.lookup f_Marks___eq__ = some ⟨oc_Marks___eq__, od_Marks___eq__, .func (PySem.W.fnOf "__eq__" "Marks.__eq__" (defArgs s_Marks___eq__) (defBody s_Marks___eq__) (defScope s_Marks___eq__) .none kV_Marks___eq__ dc_Marks___eq__ pm_Marks___eq__ an_Marks___eq__ cd_Marks___eq__ ct_Marks___eq__), sl_Marks___eq__⟩)
    (c_Marks___eq__ : PySem.W.codeIn K cd_Marks___eq__ "Marks.__eq__" = true)
    (k_Marks___eq__ : PySem.W.keepIn K (.ref f_Marks___eq__) = true)
    (l_Marks_full : K.lookup f_Marks_full = some ⟨oc_Marks_full, od_Marks_full, .func (PySem.W.fnOf "full" "Marks.full" (defArgs s_Marks_full) (defBody s_Marks_full) (defScope s_Marks_full) .none kV_Marks_full dc_Marks_full pm_Marks_full an_Marks_full cd_Marks_full ct_Marks_full), sl_Marks_full⟩)
    (c_Marks_full : PySem.W.codeIn K cd_Marks_full "Marks.full" = true)
    (k_Marks_full : PySem.W.keepIn K (.ref f_Marks_full) = true)
    (l_Marks_keep : K.lookup f_Marks_keep = some ⟨oc_Marks_keep, od_Marks_keep, .func (PySem.W.fnOf "keep" "Marks.keep" (defArgs s_Marks_keep) (defBody s_Marks_keep) (defScope s_Marks_keep) .none kV_Marks_keep dc_Marks_keep pm_Marks_keep an_Marks_keep cd_Marks_keep ct_Marks_keep), sl_Marks_keep⟩)
    (c_Marks_keep : PySem.W.codeIn K cd_Marks_keep "Marks.keep" = true)
    (k_Marks_keep : PySem.W.keepIn K (.ref f_Marks_keep) = true)
    (l_Marks_meet : K.lookup f_Marks_meet = some ⟨oc_Marks_meet, od_Marks_meet, .func (PySem.W.fnOf "meet" "Marks.meet" (defArgs s_Marks_meet) (defBody s_Marks_meet) (defScope s_Marks_meet) .none kV_Marks_meet dc_Marks_meet pm_Marks_meet an_Marks_meet cd_Marks_meet ct_Marks_meet), sl_Marks_meet⟩)
    (c_Marks_meet : PySem.W.codeIn K cd_Marks_meet "Marks.meet" = true)
    (k_Marks_meet : PySem.W.keepIn K (.ref f_Marks_meet) = true)
    (l_Marks_made_smaller : K.lookup f_Marks_made_smaller = some ⟨oc_Marks_made_smaller, od_Marks_made_smaller, .func (PySem.W.fnOf "made_smaller" "Marks.made_smaller" (defArgs s_Marks_made_smaller) (defBody s_Marks_made_smaller) (defScope s_Marks_made_smaller) .none kV_Marks_made_smaller dc_Marks_made_smaller pm_Marks_made_smaller an_Marks_made_smaller cd_Marks_made_smaller ct_Marks_made_smaller), sl_Marks_made_smaller⟩)
    (c_Marks_made_smaller : PySem.W.codeIn K cd_Marks_made_smaller "Marks.made_smaller" = true)
    (k_Marks_made_smaller : PySem.W.keepIn K (.ref f_Marks_made_smaller) = true)
    (l_Marks_pour : K.lookup f_Marks_pour = some ⟨oc_Marks_pour, od_Marks_pour, .func (PySem.W.fnOf "pour" "Marks.pour" (defArgs s_Marks_pour) (defBody s_Marks_pour) (defScope s_Marks_pour) .none kV_Marks_pour dc_Marks_pour pm_Marks_pour an_Marks_pour cd_Marks_pour ct_Marks_pour), sl_Marks_pour⟩)
    (c_Marks_pour : PySem.W.codeIn K cd_Marks_pour "Marks.pour" = true)
    (k_Marks_pour : PySem.W.keepIn K (.ref f_Marks_pour) = true)
    (l_Marks_twin : K.lookup f_Marks_twin = some ⟨oc_Marks_twin, od_Marks_twin, .func (PySem.W.fnOf "twin" "Marks.twin" (defArgs s_Marks_twin) (defBody s_Marks_twin) (defScope s_Marks_twin) .none kV_Marks_twin dc_Marks_twin pm_Marks_twin an_Marks_twin cd_Marks_twin ct_Marks_twin), sl_Marks_twin⟩)
    (c_Marks_twin : PySem.W.codeIn K cd_Marks_twin "Marks.twin" = true)
    (k_Marks_twin : PySem.W.keepIn K (.ref f_Marks_twin) = true)
    (a__law_begun : PySem.W.nsIn K mainGlobals "_law_begun" = some (some (.ref f__law_begun)))
    (l__law_begun : K.lookup f__law_begun = some ⟨oc__law_begun, od__law_begun, .func (PySem.W.fnOf "_law_begun" "_law_begun" (defArgs s__law_begun) (defBody s__law_begun) (defScope s__law_begun) .none kV__law_begun dc__law_begun pm__law_begun an__law_begun cd__law_begun ct__law_begun), sl__law_begun⟩)
    (c__law_begun : PySem.W.codeIn K cd__law_begun "_law_begun" = true)
    (k__law_begun : PySem.W.keepIn K (.ref f__law_begun) = true)
    (a__law_draw : PySem.W.nsIn K mainGlobals "_law_draw" = some (some (.ref f__law_draw)))
    (l__law_draw : K.lookup f__law_draw = some ⟨oc__law_draw, od__law_draw, .func (PySem.W.fnOf "_law_draw" "_law_draw" (defArgs s__law_draw) (defBody s__law_draw) (defScope s__law_draw) .none kV__law_draw dc__law_draw pm__law_draw an__law_draw cd__law_draw ct__law_draw), sl__law_draw⟩)
    (c__law_draw : PySem.W.codeIn K cd__law_draw "_law_draw" = true)
    (k__law_draw : PySem.W.keepIn K (.ref f__law_draw) = true)
    (a__law_alphabet : PySem.W.nsIn K mainGlobals "_law_alphabet" = some (some (.ref f__law_alphabet)))
    (l__law_alphabet : K.lookup f__law_alphabet = some ⟨oc__law_alphabet, od__law_alphabet, .func (PySem.W.fnOf "_law_alphabet" "_law_alphabet" (defArgs s__law_alphabet) (defBody s__law_alphabet) (defScope s__law_alphabet) .none kV__law_alphabet dc__law_alphabet pm__law_alphabet an__law_alphabet cd__law_alphabet ct__law_alphabet), sl__law_alphabet⟩)
    (c__law_alphabet : PySem.W.codeIn K cd__law_alphabet "_law_alphabet" = true)
    (k__law_alphabet : PySem.W.keepIn K (.ref f__law_alphabet) = true)
    (a__law_least : PySem.W.nsIn K mainGlobals "_law_least" = some (some (.ref f__law_least)))
    (l__law_least : K.lookup f__law_least = some ⟨oc__law_least, od__law_least, .func (PySem.W.fnOf "_law_least" "_law_least" (defArgs s__law_least) (defBody s__law_least) (defScope s__law_least) .none kV__law_least dc__law_least pm__law_least an__law_least cd__law_least ct__law_least), sl__law_least⟩)
    (c__law_least : PySem.W.codeIn K cd__law_least "_law_least" = true)
    (k__law_least : PySem.W.keepIn K (.ref f__law_least) = true)
    (a__law_word : PySem.W.nsIn K mainGlobals "_law_word" = some (some (.ref f__law_word)))
    (l__law_word : K.lookup f__law_word = some ⟨oc__law_word, od__law_word, .func (PySem.W.fnOf "_law_word" "_law_word" (defArgs s__law_word) (defBody s__law_word) (defScope s__law_word) .none kV__law_word dc__law_word pm__law_word an__law_word cd__law_word ct__law_word), sl__law_word⟩)
    (c__law_word : PySem.W.codeIn K cd__law_word "_law_word" = true)
    (k__law_word : PySem.W.keepIn K (.ref f__law_word) = true)
    (a__law_refused : PySem.W.nsIn K mainGlobals "_law_refused" = some (some (.ref f__law_refused)))
    (l__law_refused : K.lookup f__law_refused = some ⟨oc__law_refused, od__law_refused, .func (PySem.W.fnOf "_law_refused" "_law_refused" (defArgs s__law_refused) (defBody s__law_refused) (defScope s__law_refused) .none kV__law_refused dc__law_refused pm__law_refused an__law_refused cd__law_refused ct__law_refused), sl__law_refused⟩)
    (c__law_refused : PySem.W.codeIn K cd__law_refused "_law_refused" = true)
    (k__law_refused : PySem.W.keepIn K (.ref f__law_refused) = true)
    (a__law_stands : PySem.W.nsIn K mainGlobals "_law_stands" = some (some (.ref f__law_stands)))
    (l__law_stands : K.lookup f__law_stands = some ⟨oc__law_stands, od__law_stands, .func (PySem.W.fnOf "_law_stands" "_law_stands" (defArgs s__law_stands) (defBody s__law_stands) (defScope s__law_stands) .none kV__law_stands dc__law_stands pm__law_stands an__law_stands cd__law_stands ct__law_stands), sl__law_stands⟩)
    (c__law_stands : PySem.W.codeIn K cd__law_stands "_law_stands" = true)
    (k__law_stands : PySem.W.keepIn K (.ref f__law_stands) = true)
    (a__law_turn : PySem.W.nsIn K mainGlobals "_law_turn" = some (some (.ref f__law_turn)))
    (l__law_turn : K.lookup f__law_turn = some ⟨oc__law_turn, od__law_turn, .func (PySem.W.fnOf "_law_turn" "_law_turn" (defArgs s__law_turn) (defBody s__law_turn) (defScope s__law_turn) .none kV__law_turn dc__law_turn pm__law_turn an__law_turn cd__law_turn ct__law_turn), sl__law_turn⟩)
    (c__law_turn : PySem.W.codeIn K cd__law_turn "_law_turn" = true)
    (k__law_turn : PySem.W.keepIn K (.ref f__law_turn) = true)
    (a__law_refused_poured : PySem.W.nsIn K mainGlobals "_law_refused_poured" = some (some (.ref f__law_refused_poured)))
    (l__law_refused_poured : K.lookup f__law_refused_poured = some ⟨oc__law_refused_poured, od__law_refused_poured, .func (PySem.W.fnOf "_law_refused_poured" "_law_refused_poured" (defArgs s__law_refused_poured) (defBody s__law_refused_poured) (defScope s__law_refused_poured) .none kV__law_refused_poured dc__law_refused_poured pm__law_refused_poured an__law_refused_poured (.ref cc__law_refused_poured) ct__law_refused_poured), sl__law_refused_poured⟩)
    (c__law_refused_poured : PySem.W.codeIn K (.ref cc__law_refused_poured) "_law_refused_poured" = true)
    (k__law_refused_poured : PySem.W.keepIn K (.ref f__law_refused_poured) = true)
    (lc__law_refused_poured : K.lookup cc__law_refused_poured = some ⟨oo__law_refused_poured, oe__law_refused_poured, .fields vv__law_refused_poured, sv__law_refused_poured⟩)
    (hv__law_refused_poured : (vv__law_refused_poured[11]? : Option Value) = some (.ref pp__law_refused_poured))
    (tn__law_refused_poured : K.lookup pp__law_refused_poured = none)
    (a__law_refused_first : PySem.W.nsIn K mainGlobals "_law_refused_first" = some (some (.ref f__law_refused_first)))
    (l__law_refused_first : K.lookup f__law_refused_first = some ⟨oc__law_refused_first, od__law_refused_first, .func (PySem.W.fnOf "_law_refused_first" "_law_refused_first" (defArgs s__law_refused_first) (defBody s__law_refused_first) (defScope s__law_refused_first) .none kV__law_refused_first dc__law_refused_first pm__law_refused_first an__law_refused_first (.ref cc__law_refused_first) ct__law_refused_first), sl__law_refused_first⟩)
    (c__law_refused_first : PySem.W.codeIn K (.ref cc__law_refused_first) "_law_refused_first" = true)
    (k__law_refused_first : PySem.W.keepIn K (.ref f__law_refused_first) = true)
    (lc__law_refused_first : K.lookup cc__law_refused_first = some ⟨oo__law_refused_first, oe__law_refused_first, .fields vv__law_refused_first, sv__law_refused_first⟩)
    (hv__law_refused_first : (vv__law_refused_first[11]? : Option Value) = some (.ref pp__law_refused_first))
    (tn__law_refused_first : K.lookup pp__law_refused_first = none)
    (a__law_refused_right : PySem.W.nsIn K mainGlobals "_law_refused_right" = some (some (.ref f__law_refused_right)))
    (l__law_refused_right : K.lookup f__law_refused_right = some ⟨oc__law_refused_right, od__law_refused_right, .func (PySem.W.fnOf "_law_refused_right" "_law_refused_right" (defArgs s__law_refused_right) (defBody s__law_refused_right) (defScope s__law_refused_right) .none kV__law_refused_right dc__law_refused_right pm__law_refused_right an__law_refused_right (.ref cc__law_refused_right) ct__law_refused_right), sl__law_refused_right⟩)
    (c__law_refused_right : PySem.W.codeIn K (.ref cc__law_refused_right) "_law_refused_right" = true)
    (k__law_refused_right : PySem.W.keepIn K (.ref f__law_refused_right) = true)
    (lc__law_refused_right : K.lookup cc__law_refused_right = some ⟨oo__law_refused_right, oe__law_refused_right, .fields vv__law_refused_right, sv__law_refused_right⟩)
    (hv__law_refused_right : (vv__law_refused_right[11]? : Option Value) = some (.ref pp__law_refused_right))
    (tn__law_refused_right : K.lookup pp__law_refused_right = none)
    (a_law : PySem.W.nsIn K mainGlobals "law" = some (some (.ref f_law)))
    (l_law : K.lookup f_law = some ⟨oc_law, od_law, .func (PySem.W.fnOf "law" "law" (defArgs s_law) (defBody s_law) (defScope s_law) .none kV_law dc_law pm_law an_law cd_law ct_law), sl_law⟩)
    (c_law : PySem.W.codeIn K cd_law "law" = true)
    (k_law : PySem.W.keepIn K (.ref f_law) = true)
    (ac_Letters : PySem.W.nsIn K mainGlobals "Letters" = some (some (.ref c_Letters)))
    (pg_Letters : PySem.W.plainGet K c_Letters Str.empty = true)
    (hd_Letters : PySem.W.hasDictIn K c_Letters = true)
    (po_Letters : PySem.W.plainOver K c_Letters = true)
    (sa_Letters : PySem.W.findIn K (.ref c_Letters) "__setattr__" = some (some (.builtin "object.__setattr__")))
    (mk_Letters : PySem.W.makesIn K c_Letters = true)
    (kc_Letters : PySem.W.keepIn K (.ref c_Letters) = true)
    (ia_Letters : PySem.W.findIn K (.ref c_Letters) "__class__" = some (some (.builtin "object.__class__")))
    (ib_Letters : PySem.W.specialIn K (.builtin "object.__class__") "__get__" = some (some (.builtin "getset_descriptor.__get__")))
    (ic_Letters : PySem.W.takesIn K (.builtin "object.__class__") = some true)
    (id_Letters : PySem.W.mroIn K c_Letters (.type "object") = some true)
    (ie_Letters : PySem.W.kitOne K (.ref c_Letters) (.ref c_Letters) = some true)
    (n_ranks_Letters : PySem.W.findIn K (.ref c_Letters) "ranks" = some none)
    (t_Letters___init__ : PySem.W.findIn K (.ref c_Letters) "__init__" = some (some (.ref f_Letters___init__)))
    (i_Letters___init__ : PySem.W.isFn K (.ref f_Letters___init__) = true)
    (t_Letters___eq__ : PySem.W.findIn K (.ref c_Letters) "__eq__" = some (some (.ref f_Letters___eq__)))
    (i_Letters___eq__ : PySem.W.isFn K (.ref f_Letters___eq__) = true)
    (t_Letters_ranked : PySem.W.findIn K (.ref c_Letters) "ranked" = some (some (.ref f_Letters_ranked)))
    (i_Letters_ranked : PySem.W.isFn K (.ref f_Letters_ranked) = true)
    (t_Letters_has : PySem.W.findIn K (.ref c_Letters) "has" = some (some (.ref f_Letters_has)))
    (i_Letters_has : PySem.W.isFn K (.ref f_Letters_has) = true)
    (t_Letters_rank : PySem.W.findIn K (.ref c_Letters) "rank" = some (some (.ref f_Letters_rank)))
    (i_Letters_rank : PySem.W.isFn K (.ref f_Letters_rank) = true)
    (ac_Jars : PySem.W.nsIn K mainGlobals "Jars" = some (some (.ref c_Jars)))
    (pg_Jars : PySem.W.plainGet K c_Jars Str.empty = true)
    (hd_Jars : PySem.W.hasDictIn K c_Jars = true)
    (po_Jars : PySem.W.plainOver K c_Jars = true)
    (sa_Jars : PySem.W.findIn K (.ref c_Jars) "__setattr__" = some (some (.builtin "object.__setattr__")))
    (mk_Jars : PySem.W.makesIn K c_Jars = true)
    (kc_Jars : PySem.W.keepIn K (.ref c_Jars) = true)
    (ia_Jars : PySem.W.findIn K (.ref c_Jars) "__class__" = some (some (.builtin "object.__class__")))
    (ib_Jars : PySem.W.specialIn K (.builtin "object.__class__") "__get__" = some (some (.builtin "getset_descriptor.__get__")))
    (ic_Jars : PySem.W.takesIn K (.builtin "object.__class__") = some true)
    (id_Jars : PySem.W.mroIn K c_Jars (.type "object") = some true)
    (ie_Jars : PySem.W.kitOne K (.ref c_Jars) (.ref c_Jars) = some true)
    (n_own_letters_Jars : PySem.W.findIn K (.ref c_Jars) "own_letters" = some none)
    (n_jar_number_Jars : PySem.W.findIn K (.ref c_Jars) "jar_number" = some none)
    (n_inside_Jars : PySem.W.findIn K (.ref c_Jars) "inside" = some none)
    (n_lost_Jars : PySem.W.findIn K (.ref c_Jars) "lost" = some none)
    (t_Jars___init__ : PySem.W.findIn K (.ref c_Jars) "__init__" = some (some (.ref f_Jars___init__)))
    (i_Jars___init__ : PySem.W.isFn K (.ref f_Jars___init__) = true)
    (ac_Marks : PySem.W.nsIn K mainGlobals "Marks" = some (some (.ref c_Marks)))
    (pg_Marks : PySem.W.plainGet K c_Marks Str.empty = true)
    (hd_Marks : PySem.W.hasDictIn K c_Marks = true)
    (po_Marks : PySem.W.plainOver K c_Marks = true)
    (sa_Marks : PySem.W.findIn K (.ref c_Marks) "__setattr__" = some (some (.builtin "object.__setattr__")))
    (mk_Marks : PySem.W.makesIn K c_Marks = true)
    (kc_Marks : PySem.W.keepIn K (.ref c_Marks) = true)
    (ia_Marks : PySem.W.findIn K (.ref c_Marks) "__class__" = some (some (.builtin "object.__class__")))
    (ib_Marks : PySem.W.specialIn K (.builtin "object.__class__") "__get__" = some (some (.builtin "getset_descriptor.__get__")))
    (ic_Marks : PySem.W.takesIn K (.builtin "object.__class__") = some true)
    (id_Marks : PySem.W.mroIn K c_Marks (.type "object") = some true)
    (ie_Marks : PySem.W.kitOne K (.ref c_Marks) (.ref c_Marks) = some true)
    (n_own_letters_Marks : PySem.W.findIn K (.ref c_Marks) "own_letters" = some none)
    (n_mark_number_Marks : PySem.W.findIn K (.ref c_Marks) "mark_number" = some none)
    (n_marked_Marks : PySem.W.findIn K (.ref c_Marks) "marked" = some none)
    (t_Marks___init__ : PySem.W.findIn K (.ref c_Marks) "__init__" = some (some (.ref f_Marks___init__)))
    (i_Marks___init__ : PySem.W.isFn K (.ref f_Marks___init__) = true)
    (t_Marks___eq__ : PySem.W.findIn K (.ref c_Marks) "__eq__" = some (some (.ref f_Marks___eq__)))
    (i_Marks___eq__ : PySem.W.isFn K (.ref f_Marks___eq__) = true)
    (t_Marks_letters : PySem.W.findIn K (.ref c_Marks) "letters" = some (some (.ref f_Marks_letters)))
    (i_Marks_letters : PySem.W.isFn K (.ref f_Marks_letters) = true)
    (t_Marks_many : PySem.W.findIn K (.ref c_Marks) "many" = some (some (.ref f_Marks_many)))
    (i_Marks_many : PySem.W.isFn K (.ref f_Marks_many) = true)
    (t_Marks_kept : PySem.W.findIn K (.ref c_Marks) "kept" = some (some (.ref f_Marks_kept)))
    (i_Marks_kept : PySem.W.isFn K (.ref f_Marks_kept) = true)
    (t_Marks_full : PySem.W.findIn K (.ref c_Marks) "full" = some (some (.ref f_Marks_full)))
    (i_Marks_full : PySem.W.isFn K (.ref f_Marks_full) = true)
    (t_Marks_meet : PySem.W.findIn K (.ref c_Marks) "meet" = some (some (.ref f_Marks_meet)))
    (i_Marks_meet : PySem.W.isFn K (.ref f_Marks_meet) = true)
    (t_Marks_keep : PySem.W.findIn K (.ref c_Marks) "keep" = some (some (.ref f_Marks_keep)))
    (i_Marks_keep : PySem.W.isFn K (.ref f_Marks_keep) = true)
    (t_Marks_made_smaller : PySem.W.findIn K (.ref c_Marks) "made_smaller" = some (some (.ref f_Marks_made_smaller)))
    (i_Marks_made_smaller : PySem.W.isFn K (.ref f_Marks_made_smaller) = true)
    (t_Marks_pour : PySem.W.findIn K (.ref c_Marks) "pour" = some (some (.ref f_Marks_pour)))
    (i_Marks_pour : PySem.W.isFn K (.ref f_Marks_pour) = true)
    (t_Marks_twin : PySem.W.findIn K (.ref c_Marks) "twin" = some (some (.ref f_Marks_twin)))
    (i_Marks_twin : PySem.W.isFn K (.ref f_Marks_twin) = true)
    (nk_Marks_0 : PySem.W.kitOne K (.type "NoneType") (.ref c_Marks) = some false)
    (nk_Marks_1 : PySem.W.kitOne K (.type "int") (.ref c_Marks) = some false)
    (nk_Marks_2 : PySem.W.kitOne K (.type "tuple") (.ref c_Marks) = some false)
    (nk_Marks_3 : PySem.W.kitOne K (.type "list") (.ref c_Marks) = some false)
    (nk_Marks_4 : PySem.W.kitOne K (.ref c_Jars) (.ref c_Marks) = some false)
    (nk_Marks_5 : PySem.W.kitOne K (.ref c_Letters) (.ref c_Marks) = some false)
    (ns_Marks_0 : PySem.W.subIn K (.ref c_Jars) (.ref c_Marks) = some false)
    (ns_Marks_1 : PySem.W.subIn K (.type "list") (.ref c_Marks) = some false)
    (ac_LeftError : PySem.W.nsIn K mainGlobals "LeftError" = some (some (.ref c_LeftError)))
    (ac_NoCount : PySem.W.nsIn K mainGlobals "NoCount" = some (some (.ref c_NoCount)))
    (ac_NoDeed : PySem.W.nsIn K mainGlobals "NoDeed" = some (some (.ref c_NoDeed)))
    (ac_NoFeed : PySem.W.nsIn K mainGlobals "NoFeed" = some (some (.ref c_NoFeed)))
    (ac_NoKeeper : PySem.W.nsIn K mainGlobals "NoKeeper" = some (some (.ref c_NoKeeper)))
    (ac_NoLetter : PySem.W.nsIn K mainGlobals "NoLetter" = some (some (.ref c_NoLetter)))
    (ac_NoLetters : PySem.W.nsIn K mainGlobals "NoLetters" = some (some (.ref c_NoLetters)))
    (ac_NoMany : PySem.W.nsIn K mainGlobals "NoMany" = some (some (.ref c_NoMany)))
    (ac_NoName : PySem.W.nsIn K mainGlobals "NoName" = some (some (.ref c_NoName)))
    (ac_NoNumber : PySem.W.nsIn K mainGlobals "NoNumber" = some (some (.ref c_NoNumber)))
    (ac_NoPast : PySem.W.nsIn K mainGlobals "NoPast" = some (some (.ref c_NoPast)))
    (ac_NoTally : PySem.W.nsIn K mainGlobals "NoTally" = some (some (.ref c_NoTally)))
    (ac_NoTimes : PySem.W.nsIn K mainGlobals "NoTimes" = some (some (.ref c_NoTimes)))
    (xk_NoKeeper : PySem.W.keepIn K (.ref c_NoKeeper) = true)
    (xq_NoKeeper : PySem.W.excIn K c_NoKeeper [.type "ValueError", .type "Exception", .type "BaseException", .type "object"] "ValueError.__new__" = true)
    (xs_NoKeeper : PySem.W.subIn K (.ref c_NoKeeper) (.type "BaseException") = some true)
    (xt_NoKeeper : PySem.W.typeIn K (.ref c_NoKeeper) = some (.type "type"))
    (xi_NoKeeper : PySem.W.isClsIn K c_NoKeeper = true)
    (xu_NoKeeper : PySem.W.subIn K (.ref c_NoKeeper) (.ref c_NoKeeper) = some true)
    (xg_NoKeeper : PySem.W.findIn K (.ref c_NoKeeper) "__getattribute__" = some (some (.builtin "BaseException.__getattribute__")))
    (xh_NoKeeper : PySem.W.findIn K (.ref c_NoKeeper) "__getattr__" = some none)
    (xd_NoKeeper : PySem.W.hasDictIn K c_NoKeeper = true)
    (xa_NoKeeper : PySem.W.findIn K (.ref c_NoKeeper) "__class__" = some (some (.builtin "object.__class__")))
    (xn_NoKeeper : PySem.W.specialIn K (.builtin "object.__class__") "__get__" = some (some (.builtin "getset_descriptor.__get__")))
    (xw_NoKeeper : PySem.W.takesIn K (.builtin "object.__class__") = some true)
    (xm_NoKeeper : PySem.W.mroIn K c_NoKeeper (.type "object") = some true)
    (xv_NoKeeper : PySem.W.subIn K (.ref c_NoKeeper) (.type "ValueError") = some true)
    (xk_NoMany : PySem.W.keepIn K (.ref c_NoMany) = true)
    (xq_NoMany : PySem.W.excIn K c_NoMany [.type "ValueError", .type "Exception", .type "BaseException", .type "object"] "ValueError.__new__" = true)
    (xs_NoMany : PySem.W.subIn K (.ref c_NoMany) (.type "BaseException") = some true)
    (xt_NoMany : PySem.W.typeIn K (.ref c_NoMany) = some (.type "type"))
    (xi_NoMany : PySem.W.isClsIn K c_NoMany = true)
    (xu_NoMany : PySem.W.subIn K (.ref c_NoMany) (.ref c_NoMany) = some true)
    (xg_NoMany : PySem.W.findIn K (.ref c_NoMany) "__getattribute__" = some (some (.builtin "BaseException.__getattribute__")))
    (xh_NoMany : PySem.W.findIn K (.ref c_NoMany) "__getattr__" = some none)
    (xd_NoMany : PySem.W.hasDictIn K c_NoMany = true)
    (xa_NoMany : PySem.W.findIn K (.ref c_NoMany) "__class__" = some (some (.builtin "object.__class__")))
    (xn_NoMany : PySem.W.specialIn K (.builtin "object.__class__") "__get__" = some (some (.builtin "getset_descriptor.__get__")))
    (xw_NoMany : PySem.W.takesIn K (.builtin "object.__class__") = some true)
    (xm_NoMany : PySem.W.mroIn K c_NoMany (.type "object") = some true)
    (xv_NoMany : PySem.W.subIn K (.ref c_NoMany) (.type "ValueError") = some true)
    (xk_NoLetter : PySem.W.keepIn K (.ref c_NoLetter) = true)
    (xs_NoLetter : PySem.W.subIn K (.ref c_NoLetter) (.type "BaseException") = some true)
    (xt_NoLetter : PySem.W.typeIn K (.ref c_NoLetter) = some (.type "type"))
    (xg_NoLetter : PySem.W.findIn K (.ref c_NoLetter) "__getattribute__" = some (some (.builtin "BaseException.__getattribute__")))
    (xh_NoLetter : PySem.W.findIn K (.ref c_NoLetter) "__getattr__" = some none)
    (xd_NoLetter : PySem.W.hasDictIn K c_NoLetter = true)
    (xa_NoLetter : PySem.W.findIn K (.ref c_NoLetter) "__class__" = some (some (.builtin "object.__class__")))
    (xn_NoLetter : PySem.W.specialIn K (.builtin "object.__class__") "__get__" = some (some (.builtin "getset_descriptor.__get__")))
    (xw_NoLetter : PySem.W.takesIn K (.builtin "object.__class__") = some true)
    (xm_NoLetter : PySem.W.mroIn K c_NoLetter (.type "object") = some true)
    (xv_NoLetter : PySem.W.subIn K (.ref c_NoLetter) (.type "ValueError") = some true)
    (yo_NoLetter : BE.oexIn K c_NoLetter = true)
    (ya_NoLetter : PySem.W.findIn K (.ref c_NoLetter) "__setattr__" = some (some (.builtin "object.__setattr__")))
    (t_NoLetter___init__ : PySem.W.findIn K (.ref c_NoLetter) "__init__" = some (some (.ref f_NoLetter___init__)))
    (yt_NoLetter : PySem.W.typeIn K (.ref f_NoLetter___init__) = some (.type "function"))
    (yf_name_NoLetter : PySem.W.findIn K (.ref c_NoLetter) "name" = some none)
    (zs_LeftError : PySem.W.subIn K (.ref c_LeftError) (.type "BaseException") = some true)
    (zd_LeftError : PySem.W.hasDictIn K c_LeftError = true)
    (zt_LeftError : PySem.W.typeIn K (.ref c_LeftError) = some (.type "type"))
    (zl_NoMany : PySem.W.subIn K (.ref c_NoMany) (.ref c_LeftError) = some true)
    (kk_NoMany_NoLetter : PySem.W.kitOne K (.ref c_NoMany) (.ref c_NoLetter) = some false)
    (kk_NoMany_NoTimes : PySem.W.kitOne K (.ref c_NoMany) (.ref c_NoTimes) = some false)
    (kk_NoMany_NoMany : PySem.W.kitOne K (.ref c_NoMany) (.ref c_NoMany) = some true)
    (kk_NoMany_NoKeeper : PySem.W.kitOne K (.ref c_NoMany) (.ref c_NoKeeper) = some false)
    (kk_NoMany_NoLetters : PySem.W.kitOne K (.ref c_NoMany) (.ref c_NoLetters) = some false)
    (kk_NoMany_NoFeed : PySem.W.kitOne K (.ref c_NoMany) (.ref c_NoFeed) = some false)
    (kk_NoMany_NoPast : PySem.W.kitOne K (.ref c_NoMany) (.ref c_NoPast) = some false)
    (kk_NoMany_NoTally : PySem.W.kitOne K (.ref c_NoMany) (.ref c_NoTally) = some false)
    (kk_NoMany_NoCount : PySem.W.kitOne K (.ref c_NoMany) (.ref c_NoCount) = some false)
    (kk_NoMany_NoNumber : PySem.W.kitOne K (.ref c_NoMany) (.ref c_NoNumber) = some false)
    (kk_NoMany_NoDeed : PySem.W.kitOne K (.ref c_NoMany) (.ref c_NoDeed) = some false)
    (kk_NoMany_NoName : PySem.W.kitOne K (.ref c_NoMany) (.ref c_NoName) = some false)
    (zl_NoLetter : PySem.W.subIn K (.ref c_NoLetter) (.ref c_LeftError) = some true)
    (kk_NoLetter_NoLetter : PySem.W.kitOne K (.ref c_NoLetter) (.ref c_NoLetter) = some true)
    (kk_NoLetter_NoTimes : PySem.W.kitOne K (.ref c_NoLetter) (.ref c_NoTimes) = some false)
    (kk_NoLetter_NoMany : PySem.W.kitOne K (.ref c_NoLetter) (.ref c_NoMany) = some false)
    (kk_NoLetter_NoKeeper : PySem.W.kitOne K (.ref c_NoLetter) (.ref c_NoKeeper) = some false)
    (kk_NoLetter_NoLetters : PySem.W.kitOne K (.ref c_NoLetter) (.ref c_NoLetters) = some false)
    (kk_NoLetter_NoFeed : PySem.W.kitOne K (.ref c_NoLetter) (.ref c_NoFeed) = some false)
    (kk_NoLetter_NoPast : PySem.W.kitOne K (.ref c_NoLetter) (.ref c_NoPast) = some false)
    (kk_NoLetter_NoTally : PySem.W.kitOne K (.ref c_NoLetter) (.ref c_NoTally) = some false)
    (kk_NoLetter_NoCount : PySem.W.kitOne K (.ref c_NoLetter) (.ref c_NoCount) = some false)
    (kk_NoLetter_NoNumber : PySem.W.kitOne K (.ref c_NoLetter) (.ref c_NoNumber) = some false)
    (kk_NoLetter_NoDeed : PySem.W.kitOne K (.ref c_NoLetter) (.ref c_NoDeed) = some false)
    (kk_NoLetter_NoName : PySem.W.kitOne K (.ref c_NoLetter) (.ref c_NoName) = some false)
    (zl_NoKeeper : PySem.W.subIn K (.ref c_NoKeeper) (.ref c_LeftError) = some true)
    (kk_NoKeeper_NoLetter : PySem.W.kitOne K (.ref c_NoKeeper) (.ref c_NoLetter) = some false)
    (kk_NoKeeper_NoTimes : PySem.W.kitOne K (.ref c_NoKeeper) (.ref c_NoTimes) = some false)
    (kk_NoKeeper_NoMany : PySem.W.kitOne K (.ref c_NoKeeper) (.ref c_NoMany) = some false)
    (kk_NoKeeper_NoKeeper : PySem.W.kitOne K (.ref c_NoKeeper) (.ref c_NoKeeper) = some true)
    (kk_NoKeeper_NoLetters : PySem.W.kitOne K (.ref c_NoKeeper) (.ref c_NoLetters) = some false)
    (kk_NoKeeper_NoFeed : PySem.W.kitOne K (.ref c_NoKeeper) (.ref c_NoFeed) = some false)
    (kk_NoKeeper_NoPast : PySem.W.kitOne K (.ref c_NoKeeper) (.ref c_NoPast) = some false)
    (kk_NoKeeper_NoTally : PySem.W.kitOne K (.ref c_NoKeeper) (.ref c_NoTally) = some false)
    (kk_NoKeeper_NoCount : PySem.W.kitOne K (.ref c_NoKeeper) (.ref c_NoCount) = some false)
    (kk_NoKeeper_NoNumber : PySem.W.kitOne K (.ref c_NoKeeper) (.ref c_NoNumber) = some false)
    (kk_NoKeeper_NoDeed : PySem.W.kitOne K (.ref c_NoKeeper) (.ref c_NoDeed) = some false)
    (kk_NoKeeper_NoName : PySem.W.kitOne K (.ref c_NoKeeper) (.ref c_NoName) = some false)
    (gc_MOST_JARS : PySem.W.nsIn K mainGlobals "MOST_JARS" = some (some (.int 8 tc_MOST_JARS)))
    (nn_Letters : PySem.W.findIn K (.ref c_Letters) "__ne__" = some (some (.builtin "object.__ne__")))
    (nn_Marks : PySem.W.findIn K (.ref c_Marks) "__ne__" = some (some (.builtin "object.__ne__")))
    (wd__law_refused_first__law_refused_poured : (pp__law_refused_first == pp__law_refused_poured) = false)
    (wd__law_refused_first__law_refused_right : (pp__law_refused_first == pp__law_refused_right) = false)
    (wd__law_refused_poured__law_refused_right : (pp__law_refused_poured == pp__law_refused_right) = false) :
    ∃ fd : FuncData, (∀ (s : Shared) (v : Value), BindsTo s fd ⟨[v], []⟩ [("_law_script", v)]) ∧ (∀ x, x ∈ (["_law_refused_first", "_law_refused_poured", "_law_refused_right"] : List Str) → ∃ c P, PySem.W.tabIn (K) x = some (c, P) ∧ (K).lookup P = none) ∧ ∀ base : Heap, K.In base → base.Ns mainGlobals mg → (∀ x, x ∈ (["_law_refused_first", "_law_refused_poured", "_law_refused_right"] : List Str) → LamX.TabB base mg (tabC K x) (tabP K x)) → FnG l.prog w K mg base 9 fa fd ["_law_script"] (sp_law K) := by
  have e := hfa.symm.trans (PySem.W.mg_of X G a_law)
  cases e
  have F_NoLetter___init__ := fun_mk (st := s_NoLetter___init__) l_NoLetter___init__ c_NoLetter___init__ k_NoLetter___init__
  have F_is_whole := fun_mk (st := s_is_whole) l_is_whole c_is_whole k_is_whole
  have F_is_letter := fun_mk (st := s_is_letter) l_is_letter c_is_letter k_is_letter
  have F_Letters___init__ := fun_mk (st := s_Letters___init__) l_Letters___init__ c_Letters___init__ k_Letters___init__
  have F_Letters_ranked := fun_mk (st := s_Letters_ranked) l_Letters_ranked c_Letters_ranked k_Letters_ranked
  have F_Letters___eq__ := fun_mk (st := s_Letters___eq__) l_Letters___eq__ c_Letters___eq__ k_Letters___eq__
  have F_Letters_has := fun_mk (st := s_Letters_has) l_Letters_has c_Letters_has k_Letters_has
  have F_Letters_rank := fun_mk (st := s_Letters_rank) l_Letters_rank c_Letters_rank k_Letters_rank
  have F_rising := fun_mk (st := s_rising) l_rising c_rising k_rising
  have F_need_many := fun_mk (st := s_need_many) l_need_many c_need_many k_need_many
  have F_Jars___init__ := fun_mk (st := s_Jars___init__) l_Jars___init__ c_Jars___init__ k_Jars___init__
  have F_Marks___init__ := fun_mk (st := s_Marks___init__) l_Marks___init__ c_Marks___init__ k_Marks___init__
  have F_Marks_kept := fun_mk (st := s_Marks_kept) l_Marks_kept c_Marks_kept k_Marks_kept
  have F_Marks_many := fun_mk (st := s_Marks_many) l_Marks_many c_Marks_many k_Marks_many
  have F_Marks_letters := fun_mk (st := s_Marks_letters) l_Marks_letters c_Marks_letters k_Marks_letters
  have F_Marks___eq__ := fun_mk (st := s_Marks___eq__) l_Marks___eq__ c_Marks___eq__ k_Marks___eq__
  have F_Marks_full := fun_mk (st := s_Marks_full) l_Marks_full c_Marks_full k_Marks_full
  have F_Marks_keep := fun_mk (st := s_Marks_keep) l_Marks_keep c_Marks_keep k_Marks_keep
  have F_Marks_meet := fun_mk (st := s_Marks_meet) l_Marks_meet c_Marks_meet k_Marks_meet
  have F_Marks_made_smaller := fun_mk (st := s_Marks_made_smaller) l_Marks_made_smaller c_Marks_made_smaller k_Marks_made_smaller
  have F_Marks_pour := fun_mk (st := s_Marks_pour) l_Marks_pour c_Marks_pour k_Marks_pour
  have F_Marks_twin := fun_mk (st := s_Marks_twin) l_Marks_twin c_Marks_twin k_Marks_twin
  have F__law_begun := fun_mk (st := s__law_begun) l__law_begun c__law_begun k__law_begun
  have F__law_draw := fun_mk (st := s__law_draw) l__law_draw c__law_draw k__law_draw
  have F__law_alphabet := fun_mk (st := s__law_alphabet) l__law_alphabet c__law_alphabet k__law_alphabet
  have F__law_least := fun_mk (st := s__law_least) l__law_least c__law_least k__law_least
  have F__law_word := fun_mk (st := s__law_word) l__law_word c__law_word k__law_word
  have F__law_refused := fun_mk (st := s__law_refused) l__law_refused c__law_refused k__law_refused
  have F__law_stands := fun_mk (st := s__law_stands) l__law_stands c__law_stands k__law_stands
  have F__law_turn := fun_mk (st := s__law_turn) l__law_turn c__law_turn k__law_turn
  have ti__law_refused_poured := tab_mk a__law_refused_poured l__law_refused_poured rfl lc__law_refused_poured hv__law_refused_poured
  have F__law_refused_poured := funC_mk (st := s__law_refused_poured) ti__law_refused_poured l__law_refused_poured c__law_refused_poured k__law_refused_poured
  have ti__law_refused_first := tab_mk a__law_refused_first l__law_refused_first rfl lc__law_refused_first hv__law_refused_first
  have F__law_refused_first := funC_mk (st := s__law_refused_first) ti__law_refused_first l__law_refused_first c__law_refused_first k__law_refused_first
  have ti__law_refused_right := tab_mk a__law_refused_right l__law_refused_right rfl lc__law_refused_right hv__law_refused_right
  have F__law_refused_right := funC_mk (st := s__law_refused_right) ti__law_refused_right l__law_refused_right c__law_refused_right k__law_refused_right
  have F_law := fun_mk (st := s_law) l_law c_law k_law
  have re_NoKeeper : BX.ErrC K (cErr K "NoKeeper") := by
    rw [cErr_of ac_NoKeeper]
    exact ⟨xk_NoKeeper, xq_NoKeeper, xs_NoKeeper, xt_NoKeeper, BX.exm_self xs_NoKeeper xi_NoKeeper xt_NoKeeper xu_NoKeeper, ⟨xg_NoKeeper, xh_NoKeeper, xs_NoKeeper, xd_NoKeeper, xa_NoKeeper, xn_NoKeeper, xw_NoKeeper, xm_NoKeeper⟩, BX.kit_ve (by decide +kernel) xv_NoKeeper⟩
  have re_NoMany : BX.ErrC K (cErr K "NoMany") := by
    rw [cErr_of ac_NoMany]
    exact ⟨xk_NoMany, xq_NoMany, xs_NoMany, xt_NoMany, BX.exm_self xs_NoMany xi_NoMany xt_NoMany xu_NoMany, ⟨xg_NoMany, xh_NoMany, xs_NoMany, xd_NoMany, xa_NoMany, xn_NoMany, xw_NoMany, xm_NoMany⟩, BX.kit_ve (by decide +kernel) xv_NoMany⟩
  let T : Tx K mg := {
    m_isinstance := PySem.W.mg_none_of X G z_isinstance
    m_int := PySem.W.mg_none_of X G z_int
    m_bool := PySem.W.mg_none_of X G z_bool
    m_str := PySem.W.mg_none_of X G z_str
    m_len := PySem.W.mg_none_of X G z_len
    m_all := PySem.W.mg_none_of X G z_all
    m_list := PySem.W.mg_none_of X G z_list
    m_tuple := PySem.W.mg_none_of X G z_tuple
    m_set := PySem.W.mg_none_of X G z_set
    m_enumerate := PySem.W.mg_none_of X G z_enumerate
    m_sorted := PySem.W.mg_none_of X G z_sorted
    m_min := PySem.W.mg_none_of X G z_min
    m_abs := PySem.W.mg_none_of X G z_abs
    m_range := PySem.W.mg_none_of X G z_range
    m_ValueError := PySem.W.mg_none_of X G z_ValueError
    m_repr := PySem.W.mg_none_of X G z_repr
    m_max := PySem.W.mg_none_of X G z_max
    m_zip := PySem.W.mg_none_of X G z_zip
    f_NoLetter___init__ := f_NoLetter___init__
    d_NoLetter___init__ := _
    F_NoLetter___init__ := F_NoLetter___init__
    b_NoLetter___init__ := F_NoLetter___init__.binds (ps := ["self", "name"]) fun _ _ _ _ _ _ us hl => match us, hl with | [_, _], _ => rfl
    f_is_whole := f_is_whole
    d_is_whole := _
    F_is_whole := F_is_whole
    b_is_whole := F_is_whole.binds (ps := ["thing"]) fun _ _ _ _ _ _ us hl => match us, hl with | [_], _ => rfl
    g_is_whole := PySem.W.mg_of X G a_is_whole
    f_is_letter := f_is_letter
    d_is_letter := _
    F_is_letter := F_is_letter
    b_is_letter := F_is_letter.binds (ps := ["thing"]) fun _ _ _ _ _ _ us hl => match us, hl with | [_], _ => rfl
    g_is_letter := PySem.W.mg_of X G a_is_letter
    f_Letters___init__ := f_Letters___init__
    d_Letters___init__ := _
    F_Letters___init__ := F_Letters___init__
    b_Letters___init__ := F_Letters___init__.binds (ps := ["self", "names"]) fun _ _ _ _ _ _ us hl => match us, hl with | [_, _], _ => rfl
    f_Letters_ranked := f_Letters_ranked
    d_Letters_ranked := _
    F_Letters_ranked := F_Letters_ranked
    b_Letters_ranked := F_Letters_ranked.binds (ps := ["self"]) fun _ _ _ _ _ _ us hl => match us, hl with | [_], _ => rfl
    f_Letters___eq__ := f_Letters___eq__
    d_Letters___eq__ := _
    F_Letters___eq__ := F_Letters___eq__
    b_Letters___eq__ := F_Letters___eq__.binds (ps := ["self", "other"]) fun _ _ _ _ _ _ us hl => match us, hl with | [_, _], _ => rfl
    f_Letters_has := f_Letters_has
    d_Letters_has := _
    F_Letters_has := F_Letters_has
    b_Letters_has := F_Letters_has.binds (ps := ["self", "thing"]) fun _ _ _ _ _ _ us hl => match us, hl with | [_, _], _ => rfl
    f_Letters_rank := f_Letters_rank
    d_Letters_rank := _
    F_Letters_rank := F_Letters_rank
    b_Letters_rank := F_Letters_rank.binds (ps := ["self", "name"]) fun _ _ _ _ _ _ us hl => match us, hl with | [_, _], _ => rfl
    f_rising := f_rising
    d_rising := _
    F_rising := F_rising
    b_rising := F_rising.binds (ps := ["counts"]) fun _ _ _ _ _ _ us hl => match us, hl with | [_], _ => rfl
    g_rising := PySem.W.mg_of X G a_rising
    f_need_many := f_need_many
    d_need_many := _
    F_need_many := F_need_many
    b_need_many := F_need_many.binds (ps := ["thing", "most"]) fun _ _ _ _ _ _ us hl => match us, hl with | [_, _], _ => rfl
    g_need_many := PySem.W.mg_of X G a_need_many
    f_Jars___init__ := f_Jars___init__
    d_Jars___init__ := _
    F_Jars___init__ := F_Jars___init__
    b_Jars___init__ := F_Jars___init__.binds (ps := ["self", "letters", "many"]) fun _ _ _ _ _ _ us hl => match us, hl with | [_, _, _], _ => rfl
    f_Marks___init__ := f_Marks___init__
    d_Marks___init__ := _
    F_Marks___init__ := F_Marks___init__
    b_Marks___init__ := F_Marks___init__.binds (ps := ["self", "letters", "many"]) fun _ _ _ _ _ _ us hl => match us, hl with | [_, _, _], _ => rfl
    f_Marks_kept := f_Marks_kept
    d_Marks_kept := _
    F_Marks_kept := F_Marks_kept
    b_Marks_kept := F_Marks_kept.binds (ps := ["self"]) fun _ _ _ _ _ _ us hl => match us, hl with | [_], _ => rfl
    f_Marks_many := f_Marks_many
    d_Marks_many := _
    F_Marks_many := F_Marks_many
    b_Marks_many := F_Marks_many.binds (ps := ["self"]) fun _ _ _ _ _ _ us hl => match us, hl with | [_], _ => rfl
    f_Marks_letters := f_Marks_letters
    d_Marks_letters := _
    F_Marks_letters := F_Marks_letters
    b_Marks_letters := F_Marks_letters.binds (ps := ["self"]) fun _ _ _ _ _ _ us hl => match us, hl with | [_], _ => rfl
    f_Marks___eq__ := f_Marks___eq__
    d_Marks___eq__ := _
    F_Marks___eq__ := F_Marks___eq__
    b_Marks___eq__ := F_Marks___eq__.binds (ps := ["self", "other"]) fun _ _ _ _ _ _ us hl => match us, hl with | [_, _], _ => rfl
    f_Marks_full := f_Marks_full
    d_Marks_full := _
    F_Marks_full := F_Marks_full
    b_Marks_full := F_Marks_full.binds (ps := ["self"]) fun _ _ _ _ _ _ us hl => match us, hl with | [_], _ => rfl
    f_Marks_keep := f_Marks_keep
    d_Marks_keep := _
    F_Marks_keep := F_Marks_keep
    b_Marks_keep := F_Marks_keep.binds (ps := ["self", "names"]) fun _ _ _ _ _ _ us hl => match us, hl with | [_, _], _ => rfl
    f_Marks_meet := f_Marks_meet
    d_Marks_meet := _
    F_Marks_meet := F_Marks_meet
    b_Marks_meet := F_Marks_meet.binds (ps := ["self", "letter"]) fun _ _ _ _ _ _ us hl => match us, hl with | [_, _], _ => rfl
    f_Marks_made_smaller := f_Marks_made_smaller
    d_Marks_made_smaller := _
    F_Marks_made_smaller := F_Marks_made_smaller
    b_Marks_made_smaller := F_Marks_made_smaller.binds (ps := ["self", "many"]) fun _ _ _ _ _ _ us hl => match us, hl with | [_, _], _ => rfl
    f_Marks_pour := f_Marks_pour
    d_Marks_pour := _
    F_Marks_pour := F_Marks_pour
    b_Marks_pour := F_Marks_pour.binds (ps := ["self", "other"]) fun _ _ _ _ _ _ us hl => match us, hl with | [_, _], _ => rfl
    f_Marks_twin := f_Marks_twin
    d_Marks_twin := _
    F_Marks_twin := F_Marks_twin
    b_Marks_twin := F_Marks_twin.binds (ps := ["self"]) fun _ _ _ _ _ _ us hl => match us, hl with | [_], _ => rfl
    f__law_begun := f__law_begun
    d__law_begun := _
    F__law_begun := F__law_begun
    b__law_begun := F__law_begun.binds (ps := ["_law_script"]) fun _ _ _ _ _ _ us hl => match us, hl with | [_], _ => rfl
    g__law_begun := PySem.W.mg_of X G a__law_begun
    f__law_draw := f__law_draw
    d__law_draw := _
    F__law_draw := F__law_draw
    b__law_draw := F__law_draw.binds (ps := ["_law_state", "_law_size_of"]) fun _ _ _ _ _ _ us hl => match us, hl with | [_, _], _ => rfl
    g__law_draw := PySem.W.mg_of X G a__law_draw
    f__law_alphabet := f__law_alphabet
    d__law_alphabet := _
    F__law_alphabet := F__law_alphabet
    b__law_alphabet := F__law_alphabet.binds (ps := ["_law_state", "_law_low", "_law_high"]) fun _ _ _ _ _ _ us hl => match us, hl with | [_, _, _], _ => rfl
    g__law_alphabet := PySem.W.mg_of X G a__law_alphabet
    f__law_least := f__law_least
    d__law_least := _
    F__law_least := F__law_least
    b__law_least := F__law_least.binds (ps := ["_law_alphabet_here", "_law_met", "_law_wide"]) fun _ _ _ _ _ _ us hl => match us, hl with | [_, _, _], _ => rfl
    g__law_least := PySem.W.mg_of X G a__law_least
    f__law_word := f__law_word
    d__law_word := _
    F__law_word := F__law_word
    b__law_word := F__law_word.binds (ps := ["_law_error"]) fun _ _ _ _ _ _ us hl => match us, hl with | [_], _ => rfl
    g__law_word := PySem.W.mg_of X G a__law_word
    f__law_refused := f__law_refused
    d__law_refused := _
    F__law_refused := F__law_refused
    b__law_refused := F__law_refused.binds (ps := ["_law_work"]) fun _ _ _ _ _ _ us hl => match us, hl with | [_], _ => rfl
    g__law_refused := PySem.W.mg_of X G a__law_refused
    f__law_stands := f__law_stands
    d__law_stands := _
    F__law_stands := F__law_stands
    b__law_stands := F__law_stands.binds (ps := ["_law_mark", "_law_alphabet_here", "_law_plain"]) fun _ _ _ _ _ _ us hl => match us, hl with | [_, _, _], _ => rfl
    g__law_stands := PySem.W.mg_of X G a__law_stands
    f__law_turn := f__law_turn
    d__law_turn := _
    F__law_turn := F__law_turn
    b__law_turn := F__law_turn.binds (ps := ["_law_state", "_law_marks_of", "_law_plains", "_law_alphabet_here"]) fun _ _ _ _ _ _ us hl => match us, hl with | [_, _, _, _], _ => rfl
    g__law_turn := PySem.W.mg_of X G a__law_turn
    f__law_refused_poured := f__law_refused_poured
    d__law_refused_poured := _
    F__law_refused_poured := F__law_refused_poured
    b__law_refused_poured := F__law_refused_poured.binds (ps := ["_law_mark", "_law_other"]) fun _ _ _ _ _ _ us hl => match us, hl with | [_, _], _ => rfl
    g__law_refused_poured := PySem.W.mg_of X G a__law_refused_poured
    f__law_refused_first := f__law_refused_first
    d__law_refused_first := _
    F__law_refused_first := F__law_refused_first
    b__law_refused_first := F__law_refused_first.binds (ps := ["_law_alphabet_here", "_law_number"]) fun _ _ _ _ _ _ us hl => match us, hl with | [_, _], _ => rfl
    g__law_refused_first := PySem.W.mg_of X G a__law_refused_first
    f__law_refused_right := f__law_refused_right
    d__law_refused_right := _
    F__law_refused_right := F__law_refused_right
    b__law_refused_right := F__law_refused_right.binds (ps := ["_law_state", "_law_mark", "_law_alphabet_here", "_law_wide"]) fun _ _ _ _ _ _ us hl => match us, hl with | [_, _, _, _], _ => rfl
    g__law_refused_right := PySem.W.mg_of X G a__law_refused_right
    f_law := fa
    d_law := _
    F_law := F_law
    K_Letters := ⟨mk_Letters, t_Letters___init__, i_Letters___init__, kc_Letters⟩
    M_Letters___eq__ := ⟨t_Letters___eq__, i_Letters___eq__, k_Letters___eq__⟩
    M_Letters_ranked := ⟨t_Letters_ranked, i_Letters_ranked, k_Letters_ranked⟩
    M_Letters_has := ⟨t_Letters_has, i_Letters_has, k_Letters_has⟩
    M_Letters_rank := ⟨t_Letters_rank, i_Letters_rank, k_Letters_rank⟩
    c_Letters := c_Letters
    g_Letters := PySem.W.mg_of X G ac_Letters
    rc_Letters := ⟨⟨⟨pg_Letters, hd_Letters, po_Letters, sa_Letters⟩, ia_Letters, ib_Letters, ic_Letters, id_Letters, ie_Letters⟩, n_ranks_Letters⟩
    K_Jars := ⟨mk_Jars, t_Jars___init__, i_Jars___init__, kc_Jars⟩
    c_Jars := c_Jars
    g_Jars := PySem.W.mg_of X G ac_Jars
    rc_Jars := ⟨⟨⟨pg_Jars, hd_Jars, po_Jars, sa_Jars⟩, ia_Jars, ib_Jars, ic_Jars, id_Jars, ie_Jars⟩, n_own_letters_Jars, n_jar_number_Jars, n_inside_Jars, n_lost_Jars⟩
    K_Marks := ⟨mk_Marks, t_Marks___init__, i_Marks___init__, kc_Marks⟩
    M_Marks___eq__ := ⟨t_Marks___eq__, i_Marks___eq__, k_Marks___eq__⟩
    M_Marks_letters := ⟨t_Marks_letters, i_Marks_letters, k_Marks_letters⟩
    M_Marks_many := ⟨t_Marks_many, i_Marks_many, k_Marks_many⟩
    M_Marks_kept := ⟨t_Marks_kept, i_Marks_kept, k_Marks_kept⟩
    M_Marks_full := ⟨t_Marks_full, i_Marks_full, k_Marks_full⟩
    M_Marks_meet := ⟨t_Marks_meet, i_Marks_meet, k_Marks_meet⟩
    M_Marks_keep := ⟨t_Marks_keep, i_Marks_keep, k_Marks_keep⟩
    M_Marks_made_smaller := ⟨t_Marks_made_smaller, i_Marks_made_smaller, k_Marks_made_smaller⟩
    M_Marks_pour := ⟨t_Marks_pour, i_Marks_pour, k_Marks_pour⟩
    M_Marks_twin := ⟨t_Marks_twin, i_Marks_twin, k_Marks_twin⟩
    c_Marks := c_Marks
    g_Marks := PySem.W.mg_of X G ac_Marks
    rc_Marks := ⟨⟨⟨pg_Marks, hd_Marks, po_Marks, sa_Marks⟩, ia_Marks, ib_Marks, ic_Marks, id_Marks, ie_Marks⟩, n_own_letters_Marks, n_mark_number_Marks, n_marked_Marks⟩
    nk_Marks := ⟨nk_Marks_0, nk_Marks_1, nk_Marks_2, nk_Marks_3, nk_Marks_4, nk_Marks_5⟩
    ns_Marks := ⟨ns_Marks_0, ns_Marks_1⟩
    g_LeftError := by
      rw [cErr_of ac_LeftError]
      exact PySem.W.mg_of X G ac_LeftError
    g_NoCount := by
      rw [cErr_of ac_NoCount]
      exact PySem.W.mg_of X G ac_NoCount
    g_NoDeed := by
      rw [cErr_of ac_NoDeed]
      exact PySem.W.mg_of X G ac_NoDeed
    g_NoFeed := by
      rw [cErr_of ac_NoFeed]
      exact PySem.W.mg_of X G ac_NoFeed
    g_NoKeeper := by
      rw [cErr_of ac_NoKeeper]
      exact PySem.W.mg_of X G ac_NoKeeper
    g_NoLetter := by
      rw [cErr_of ac_NoLetter]
      exact PySem.W.mg_of X G ac_NoLetter
    g_NoLetters := by
      rw [cErr_of ac_NoLetters]
      exact PySem.W.mg_of X G ac_NoLetters
    g_NoMany := by
      rw [cErr_of ac_NoMany]
      exact PySem.W.mg_of X G ac_NoMany
    g_NoName := by
      rw [cErr_of ac_NoName]
      exact PySem.W.mg_of X G ac_NoName
    g_NoNumber := by
      rw [cErr_of ac_NoNumber]
      exact PySem.W.mg_of X G ac_NoNumber
    g_NoPast := by
      rw [cErr_of ac_NoPast]
      exact PySem.W.mg_of X G ac_NoPast
    g_NoTally := by
      rw [cErr_of ac_NoTally]
      exact PySem.W.mg_of X G ac_NoTally
    g_NoTimes := by
      rw [cErr_of ac_NoTimes]
      exact PySem.W.mg_of X G ac_NoTimes
    rc_NoKeeper := re_NoKeeper
    rc_NoMany := re_NoMany
    ri_NoLetter := by
      rw [cErr_of ac_NoLetter]
      exact BE.oex_mk yo_NoLetter ya_NoLetter xs_NoLetter xt_NoLetter xk_NoLetter
    ii_NoLetter := by
      rw [cErr_of ac_NoLetter]
      exact t_NoLetter___init__
    ti_NoLetter := yt_NoLetter
    xo_NoLetter_name := by
      rw [cErr_of ac_NoLetter]
      exact yf_name_NoLetter
    rf_NoMany := ⟨by
      rw [cErr_of ac_NoMany]
      exact ⟨xg_NoMany, xh_NoMany, xs_NoMany, xd_NoMany, xa_NoMany, xn_NoMany, xw_NoMany, xm_NoMany⟩, by rw [cErr_of ac_NoMany]; exact BX.kit_ve (by decide +kernel) xv_NoMany, by rw [cErr_of ac_NoMany, cErr_of ac_LeftError]; exact PySem.W.exm_ref zs_LeftError zd_LeftError zt_LeftError zl_NoMany, refd_mk ["NoLetter", "NoTimes", "NoMany", "NoKeeper", "NoLetters", "NoFeed", "NoPast", "NoTally", "NoCount", "NoNumber", "NoDeed", "NoName"] ⟨by rw [cErr_of ac_NoMany, cErr_of ac_NoLetter]; exact kk_NoMany_NoLetter.trans (by decide +kernel), by rw [cErr_of ac_NoMany, cErr_of ac_NoTimes]; exact kk_NoMany_NoTimes.trans (by decide +kernel), by rw [cErr_of ac_NoMany]; exact kk_NoMany_NoMany.trans (by decide +kernel), by rw [cErr_of ac_NoMany, cErr_of ac_NoKeeper]; exact kk_NoMany_NoKeeper.trans (by decide +kernel), by rw [cErr_of ac_NoMany, cErr_of ac_NoLetters]; exact kk_NoMany_NoLetters.trans (by decide +kernel), by rw [cErr_of ac_NoMany, cErr_of ac_NoFeed]; exact kk_NoMany_NoFeed.trans (by decide +kernel), by rw [cErr_of ac_NoMany, cErr_of ac_NoPast]; exact kk_NoMany_NoPast.trans (by decide +kernel), by rw [cErr_of ac_NoMany, cErr_of ac_NoTally]; exact kk_NoMany_NoTally.trans (by decide +kernel), by rw [cErr_of ac_NoMany, cErr_of ac_NoCount]; exact kk_NoMany_NoCount.trans (by decide +kernel), by rw [cErr_of ac_NoMany, cErr_of ac_NoNumber]; exact kk_NoMany_NoNumber.trans (by decide +kernel), by rw [cErr_of ac_NoMany, cErr_of ac_NoDeed]; exact kk_NoMany_NoDeed.trans (by decide +kernel), by rw [cErr_of ac_NoMany, cErr_of ac_NoName]; exact kk_NoMany_NoName.trans (by decide +kernel), trivial⟩⟩
    rf_NoLetter := ⟨by
      rw [cErr_of ac_NoLetter]
      exact ⟨xg_NoLetter, xh_NoLetter, xs_NoLetter, xd_NoLetter, xa_NoLetter, xn_NoLetter, xw_NoLetter, xm_NoLetter⟩, by rw [cErr_of ac_NoLetter]; exact BX.kit_ve (by decide +kernel) xv_NoLetter, by rw [cErr_of ac_NoLetter, cErr_of ac_LeftError]; exact PySem.W.exm_ref zs_LeftError zd_LeftError zt_LeftError zl_NoLetter, refd_mk ["NoLetter", "NoTimes", "NoMany", "NoKeeper", "NoLetters", "NoFeed", "NoPast", "NoTally", "NoCount", "NoNumber", "NoDeed", "NoName"] ⟨by rw [cErr_of ac_NoLetter]; exact kk_NoLetter_NoLetter.trans (by decide +kernel), by rw [cErr_of ac_NoLetter, cErr_of ac_NoTimes]; exact kk_NoLetter_NoTimes.trans (by decide +kernel), by rw [cErr_of ac_NoLetter, cErr_of ac_NoMany]; exact kk_NoLetter_NoMany.trans (by decide +kernel), by rw [cErr_of ac_NoLetter, cErr_of ac_NoKeeper]; exact kk_NoLetter_NoKeeper.trans (by decide +kernel), by rw [cErr_of ac_NoLetter, cErr_of ac_NoLetters]; exact kk_NoLetter_NoLetters.trans (by decide +kernel), by rw [cErr_of ac_NoLetter, cErr_of ac_NoFeed]; exact kk_NoLetter_NoFeed.trans (by decide +kernel), by rw [cErr_of ac_NoLetter, cErr_of ac_NoPast]; exact kk_NoLetter_NoPast.trans (by decide +kernel), by rw [cErr_of ac_NoLetter, cErr_of ac_NoTally]; exact kk_NoLetter_NoTally.trans (by decide +kernel), by rw [cErr_of ac_NoLetter, cErr_of ac_NoCount]; exact kk_NoLetter_NoCount.trans (by decide +kernel), by rw [cErr_of ac_NoLetter, cErr_of ac_NoNumber]; exact kk_NoLetter_NoNumber.trans (by decide +kernel), by rw [cErr_of ac_NoLetter, cErr_of ac_NoDeed]; exact kk_NoLetter_NoDeed.trans (by decide +kernel), by rw [cErr_of ac_NoLetter, cErr_of ac_NoName]; exact kk_NoLetter_NoName.trans (by decide +kernel), trivial⟩⟩
    rf_NoKeeper := ⟨by
      rw [cErr_of ac_NoKeeper]
      exact ⟨xg_NoKeeper, xh_NoKeeper, xs_NoKeeper, xd_NoKeeper, xa_NoKeeper, xn_NoKeeper, xw_NoKeeper, xm_NoKeeper⟩, by rw [cErr_of ac_NoKeeper]; exact BX.kit_ve (by decide +kernel) xv_NoKeeper, by rw [cErr_of ac_NoKeeper, cErr_of ac_LeftError]; exact PySem.W.exm_ref zs_LeftError zd_LeftError zt_LeftError zl_NoKeeper, refd_mk ["NoLetter", "NoTimes", "NoMany", "NoKeeper", "NoLetters", "NoFeed", "NoPast", "NoTally", "NoCount", "NoNumber", "NoDeed", "NoName"] ⟨by rw [cErr_of ac_NoKeeper, cErr_of ac_NoLetter]; exact kk_NoKeeper_NoLetter.trans (by decide +kernel), by rw [cErr_of ac_NoKeeper, cErr_of ac_NoTimes]; exact kk_NoKeeper_NoTimes.trans (by decide +kernel), by rw [cErr_of ac_NoKeeper, cErr_of ac_NoMany]; exact kk_NoKeeper_NoMany.trans (by decide +kernel), by rw [cErr_of ac_NoKeeper]; exact kk_NoKeeper_NoKeeper.trans (by decide +kernel), by rw [cErr_of ac_NoKeeper, cErr_of ac_NoLetters]; exact kk_NoKeeper_NoLetters.trans (by decide +kernel), by rw [cErr_of ac_NoKeeper, cErr_of ac_NoFeed]; exact kk_NoKeeper_NoFeed.trans (by decide +kernel), by rw [cErr_of ac_NoKeeper, cErr_of ac_NoPast]; exact kk_NoKeeper_NoPast.trans (by decide +kernel), by rw [cErr_of ac_NoKeeper, cErr_of ac_NoTally]; exact kk_NoKeeper_NoTally.trans (by decide +kernel), by rw [cErr_of ac_NoKeeper, cErr_of ac_NoCount]; exact kk_NoKeeper_NoCount.trans (by decide +kernel), by rw [cErr_of ac_NoKeeper, cErr_of ac_NoNumber]; exact kk_NoKeeper_NoNumber.trans (by decide +kernel), by rw [cErr_of ac_NoKeeper, cErr_of ac_NoDeed]; exact kk_NoKeeper_NoDeed.trans (by decide +kernel), by rw [cErr_of ac_NoKeeper, cErr_of ac_NoName]; exact kk_NoKeeper_NoName.trans (by decide +kernel), trivial⟩⟩
    u_MOST_JARS := tc_MOST_JARS
    h_MOST_JARS := PySem.W.mg_of X G gc_MOST_JARS
    ne_Letters := nn_Letters
    ne_Marks := nn_Marks
    kn_Marks___init___1_letters_many := kbn_mk (l := [0, 1]) F_Marks___init__ fun _ _ _ _ _ _ us ws h1 h2 => match us, ws, h1, h2 with | [_], [_, _], _, _ => rfl
    km_Marks_meet_letter := kwm_mk F_Marks_meet fun _ _ _ _ _ _ _ us hl => match us, hl with | [_], _ => rfl
    wd__law_refused_first__law_refused_poured := by
      rw [tabP_of ti__law_refused_first, tabP_of ti__law_refused_poured]
      exact fun z => by rw [beq_eq_false_iff_ne] at wd__law_refused_first__law_refused_poured; exact wd__law_refused_first__law_refused_poured z
    wd__law_refused_first__law_refused_right := by
      rw [tabP_of ti__law_refused_first, tabP_of ti__law_refused_right]
      exact fun z => by rw [beq_eq_false_iff_ne] at wd__law_refused_first__law_refused_right; exact wd__law_refused_first__law_refused_right z
    wd__law_refused_poured__law_refused_right := by
      rw [tabP_of ti__law_refused_poured, tabP_of ti__law_refused_right]
      exact fun z => by rw [beq_eq_false_iff_ne] at wd__law_refused_poured__law_refused_right; exact wd__law_refused_poured__law_refused_right z }
  exact ⟨T.d_law, fun s v => .of_eq rfl, (fun x hx => by
    simp only [List.mem_cons, List.not_mem_nil, or_false] at hx
    rcases hx with rfl | rfl | rfl
    · exact ⟨_, _, ti__law_refused_first, tn__law_refused_first⟩
    · exact ⟨_, _, ti__law_refused_poured, tn__law_refused_poured⟩
    · exact ⟨_, _, ti__law_refused_right, tn__law_refused_right⟩), fun base _ _ TB => ok_law T TB⟩
theorem walk {l : PySem.W.OpenLaw} {q : Program} {loose : List Str} {XP : (Str → Option Value) → Heap → Prop} {YP : World → Heap → Prop} {d : DefRec} {K : Params → PySem.W.Frag} (hn : l.most = some 63) (hdf : d.params.defaults = []) (hrec : ((["_law_refused_first", "_law_refused_poured", "_law_refused_right"] : List Str).all fun x => ((PyProof.Rows.recsOf q).find? fun e => e.name == x).isSome) = true)
    (hY : ∀ (w : World) (h : Heap), YP w h → (K w.params).In h)
    (F : ∀ (w : World) (mg : Str → Option Value) (fa : Addr) (h : Heap), (K w.params).In h → h.Ns mainGlobals mg → mg d.name = some (.ref fa) →
      ∃ fd : FuncData, (∀ (s : Shared) (u : Value), BindsTo s fd ⟨[u], []⟩ [("_law_script", u)]) ∧ (∀ x, x ∈ (["_law_refused_first", "_law_refused_poured", "_law_refused_right"] : List Str) → ∃ c P, PySem.W.tabIn (K w.params) x = some (c, P) ∧ (K w.params).lookup P = none) ∧ ∀ base : Heap, (K w.params).In base → base.Ns mainGlobals mg → (∀ x, x ∈ (["_law_refused_first", "_law_refused_poured", "_law_refused_right"] : List Str) → LamX.TabB base mg (tabC (K w.params) x) (tabP (K w.params) x)) → FnG l.prog w (K w.params) mg base 9 fa fd ["_law_script"] (sp_law (K w.params))) :
    PySem.W.WalkO q loose XP YP l.row.toRowW d [] (fun f vs => PySem.call f vs) :=
  walkGT (xs := (["_law_refused_first", "_law_refused_poured", "_law_refused_right"] : List Str)) (n := 63) (k := 9) (x := "_law_script") (sp := fun w => sp_law (K w.params)) hn (by decide) hdf ⟨rfl, by decide, by decide⟩ hrec hY F (fun _ _ a ns hl hT hS => law_in a ns hl hS fun x hx => hT x hx)

end B
open PySem PySem.W PyProof.Rows
set_option maxRecDepth 100000 in
set_option maxHeartbeats 0 in
theorem PySem.Challenge.cw_bygone_k13_marks_kept_holds : PySem.Challenge.rw_bygone_k13_marks_kept.Holds := by
  w_on; o_law; k_head; (case hw => w_witness2)
  k_fill
  refine B.walk (l := PySem.Challenge.rw_bygone_k13_marks_kept) rfl rfl (by decide +kernel) (fun w h Y => PySem.W.km_in_of Y) ?F
  case F =>
    intro w mg fa h KX G hmg
    refine' B.all_mk KX G hmg ?z_isinstance ?z_int ?z_bool ?z_str ?z_len ?z_all ?z_list ?z_tuple ?z_set ?z_enumerate ?z_sorted ?z_min ?z_abs ?z_range ?z_ValueError ?z_repr ?z_max ?z_zip ?l_NoLetter___init__ ?c_NoLetter___init__ ?k_NoLetter___init__ ?a_is_whole ?l_is_whole ?c_is_whole ?k_is_whole ?a_is_letter ?l_is_letter ?c_is_letter ?k_is_letter ?l_Letters___init__ ?c_Letters___init__ ?k_Letters___init__ ?l_Letters_ranked ?c_Letters_ranked ?k_Letters_ranked ?l_Letters___eq__ ?c_Letters___eq__ ?k_Letters___eq__ ?l_Letters_has ?c_Letters_has ?k_Letters_has ?l_Letters_rank ?c_Letters_rank ?k_Letters_rank ?a_rising ?l_rising ?c_rising ?k_rising ?a_need_many ?l_need_many ?c_need_many ?k_need_many ?l_Jars___init__ ?c_Jars___init__ ?k_Jars___init__ ?l_Marks___init__ ?c_Marks___init__ ?k_Marks___init__ ?l_Marks_kept ?c_Marks_kept ?k_Marks_kept ?l_Marks_many ?c_Marks_many ?k_Marks_many ?l_Marks_letters ?c_Marks_letters ?k_Marks_letters ?l_Marks___eq__ ?c_Marks___eq__ ?k_Marks___eq__ ?l_Marks_full ?c_Marks_full ?k_Marks_full ?l_Marks_keep ?c_Marks_keep ?k_Marks_keep ?l_Marks_meet ?c_Marks_meet ?k_Marks_meet ?l_Marks_made_smaller ?c_Marks_made_smaller ?k_Marks_made_smaller ?l_Marks_pour ?c_Marks_pour ?k_Marks_pour ?l_Marks_twin ?c_Marks_twin ?k_Marks_twin ?a__law_begun ?l__law_begun ?c__law_begun ?k__law_begun ?a__law_draw ?l__law_draw ?c__law_draw ?k__law_draw ?a__law_alphabet ?l__law_alphabet ?c__law_alphabet ?k__law_alphabet ?a__law_least ?l__law_least ?c__law_least ?k__law_least ?a__law_word ?l__law_word ?c__law_word ?k__law_word ?a__law_refused ?l__law_refused ?c__law_refused ?k__law_refused ?a__law_stands ?l__law_stands ?c__law_stands ?k__law_stands ?a__law_turn ?l__law_turn ?c__law_turn ?k__law_turn ?a__law_refused_poured ?l__law_refused_poured ?c__law_refused_poured ?k__law_refused_poured ?lc__law_refused_poured ?hv__law_refused_poured ?tn__law_refused_poured ?a__law_refused_first ?l__law_refused_first ?c__law_refused_first ?k__law_refused_first ?lc__law_refused_first ?hv__law_refused_first ?tn__law_refused_first ?a__law_refused_right ?l__law_refused_right ?c__law_refused_right ?k__law_refused_right ?lc__law_refused_right ?hv__law_refused_right ?tn__law_refused_right ?a_law ?l_law ?c_law ?k_law ?ac_Letters ?pg_Letters ?hd_Letters ?po_Letters ?sa_Letters ?mk_Letters ?kc_Letters ?ia_Letters ?ib_Letters ?ic_Letters ?id_Letters ?ie_Letters ?n_ranks_Letters ?t_Letters___init__ ?i_Letters___init__ ?t_Letters___eq__ ?i_Letters___eq__ ?t_Letters_ranked ?i_Letters_ranked ?t_Letters_has ?i_Letters_has ?t_Letters_rank ?i_Letters_rank ?ac_Jars ?pg_Jars ?hd_Jars ?po_Jars ?sa_Jars ?mk_Jars ?kc_Jars ?ia_Jars ?ib_Jars ?ic_Jars ?id_Jars ?ie_Jars ?n_own_letters_Jars ?n_jar_number_Jars ?n_inside_Jars ?n_lost_Jars ?t_Jars___init__ ?i_Jars___init__ ?ac_Marks ?pg_Marks ?hd_Marks ?po_Marks ?sa_Marks ?mk_Marks ?kc_Marks ?ia_Marks ?ib_Marks ?ic_Marks ?id_Marks ?ie_Marks ?n_own_letters_Marks ?n_mark_number_Marks ?n_marked_Marks ?t_Marks___init__ ?i_Marks___init__ ?t_Marks___eq__ ?i_Marks___eq__ ?t_Marks_letters ?i_Marks_letters ?t_Marks_many ?i_Marks_many ?t_Marks_kept ?i_Marks_kept ?t_Marks_full ?i_Marks_full ?t_Marks_meet ?i_Marks_meet ?t_Marks_keep ?i_Marks_keep ?t_Marks_made_smaller ?i_Marks_made_smaller ?t_Marks_pour ?i_Marks_pour ?t_Marks_twin ?i_Marks_twin ?nk_Marks_0 ?nk_Marks_1 ?nk_Marks_2 ?nk_Marks_3 ?nk_Marks_4 ?nk_Marks_5 ?ns_Marks_0 ?ns_Marks_1 ?ac_LeftError ?ac_NoCount ?ac_NoDeed ?ac_NoFeed ?ac_NoKeeper ?ac_NoLetter ?ac_NoLetters ?ac_NoMany ?ac_NoName ?ac_NoNumber ?ac_NoPast ?ac_NoTally ?ac_NoTimes ?xk_NoKeeper ?xq_NoKeeper ?xs_NoKeeper ?xt_NoKeeper ?xi_NoKeeper ?xu_NoKeeper ?xg_NoKeeper ?xh_NoKeeper ?xd_NoKeeper ?xa_NoKeeper ?xn_NoKeeper ?xw_NoKeeper ?xm_NoKeeper ?xv_NoKeeper ?xk_NoMany ?xq_NoMany ?xs_NoMany ?xt_NoMany ?xi_NoMany ?xu_NoMany ?xg_NoMany ?xh_NoMany ?xd_NoMany ?xa_NoMany ?xn_NoMany ?xw_NoMany ?xm_NoMany ?xv_NoMany ?xk_NoLetter ?xs_NoLetter ?xt_NoLetter ?xg_NoLetter ?xh_NoLetter ?xd_NoLetter ?xa_NoLetter ?xn_NoLetter ?xw_NoLetter ?xm_NoLetter ?xv_NoLetter ?yo_NoLetter ?ya_NoLetter ?t_NoLetter___init__ ?yt_NoLetter ?yf_name_NoLetter ?zs_LeftError ?zd_LeftError ?zt_LeftError ?zl_NoMany ?kk_NoMany_NoLetter ?kk_NoMany_NoTimes ?kk_NoMany_NoMany ?kk_NoMany_NoKeeper ?kk_NoMany_NoLetters ?kk_NoMany_NoFeed ?kk_NoMany_NoPast ?kk_NoMany_NoTally ?kk_NoMany_NoCount ?kk_NoMany_NoNumber ?kk_NoMany_NoDeed ?kk_NoMany_NoName ?zl_NoLetter ?kk_NoLetter_NoLetter ?kk_NoLetter_NoTimes ?kk_NoLetter_NoMany ?kk_NoLetter_NoKeeper ?kk_NoLetter_NoLetters ?kk_NoLetter_NoFeed ?kk_NoLetter_NoPast ?kk_NoLetter_NoTally ?kk_NoLetter_NoCount ?kk_NoLetter_NoNumber ?kk_NoLetter_NoDeed ?kk_NoLetter_NoName ?zl_NoKeeper ?kk_NoKeeper_NoLetter ?kk_NoKeeper_NoTimes ?kk_NoKeeper_NoMany ?kk_NoKeeper_NoKeeper ?kk_NoKeeper_NoLetters ?kk_NoKeeper_NoFeed ?kk_NoKeeper_NoPast ?kk_NoKeeper_NoTally ?kk_NoKeeper_NoCount ?kk_NoKeeper_NoNumber ?kk_NoKeeper_NoDeed ?kk_NoKeeper_NoName ?gc_MOST_JARS ?nn_Letters ?nn_Marks ?wd__law_refused_first__law_refused_poured ?wd__law_refused_first__law_refused_right ?wd__law_refused_poured__law_refused_right
    (case z_isinstance => k_is)
    (case z_int => k_is)
    (case z_bool => k_is)
    (case z_str => k_is)
    (case z_len => k_is)
    (case z_all => k_is)
    (case z_list => k_is)
    (case z_tuple => k_is)
    (case z_set => k_is)
    (case z_enumerate => k_is)
    (case z_sorted => k_is)
    (case z_min => k_is)
    (case z_abs => k_is)
    (case z_range => k_is)
    (case z_ValueError => k_is)
    (case z_repr => k_is)
    (case z_max => k_is)
    (case z_zip => k_is)
    (case ac_Letters => k_is)
    (case ac_Jars => k_is)
    (case ac_Marks => k_is)
    (case ac_LeftError => k_is)
    (case ac_NoCount => k_is)
    (case ac_NoDeed => k_is)
    (case ac_NoFeed => k_is)
    (case ac_NoKeeper => k_is)
    (case ac_NoLetter => k_is)
    (case ac_NoLetters => k_is)
    (case ac_NoMany => k_is)
    (case ac_NoName => k_is)
    (case ac_NoNumber => k_is)
    (case ac_NoPast => k_is)
    (case ac_NoTally => k_is)
    (case ac_NoTimes => k_is)
    (case t_Letters___init__ => k_is)
    (case t_Letters___eq__ => k_is)
    (case t_Letters_ranked => k_is)
    (case t_Letters_has => k_is)
    (case t_Letters_rank => k_is)
    (case t_Jars___init__ => k_is)
    (case t_Marks___init__ => k_is)
    (case t_Marks___eq__ => k_is)
    (case t_Marks_letters => k_is)
    (case t_Marks_many => k_is)
    (case t_Marks_kept => k_is)
    (case t_Marks_full => k_is)
    (case t_Marks_meet => k_is)
    (case t_Marks_keep => k_is)
    (case t_Marks_made_smaller => k_is)
    (case t_Marks_pour => k_is)
    (case t_Marks_twin => k_is)
    (case t_NoLetter___init__ => k_is)
    (case a_is_whole => k_is)
    (case a_is_letter => k_is)
    (case a_rising => k_is)
    (case a_need_many => k_is)
    (case a__law_begun => k_is)
    (case a__law_draw => k_is)
    (case a__law_alphabet => k_is)
    (case a__law_least => k_is)
    (case a__law_word => k_is)
    (case a__law_refused => k_is)
    (case a__law_stands => k_is)
    (case a__law_turn => k_is)
    (case a__law_refused_poured => k_is)
    (case a__law_refused_first => k_is)
    (case a__law_refused_right => k_is)
    (case a_law => k_is)
    (case l_NoLetter___init__ => k_is)
    (case c_NoLetter___init__ => k_is)
    (case k_NoLetter___init__ => k_is)
    (case l_is_whole => k_is)
    (case c_is_whole => k_is)
    (case k_is_whole => k_is)
    (case l_is_letter => k_is)
    (case c_is_letter => k_is)
    (case k_is_letter => k_is)
    (case l_Letters___init__ => k_is)
    (case c_Letters___init__ => k_is)
    (case k_Letters___init__ => k_is)
    (case l_Letters_ranked => k_is)
    (case c_Letters_ranked => k_is)
    (case k_Letters_ranked => k_is)
    (case l_Letters___eq__ => k_is)
    (case c_Letters___eq__ => k_is)
    (case k_Letters___eq__ => k_is)
    (case l_Letters_has => k_is)
    (case c_Letters_has => k_is)
    (case k_Letters_has => k_is)
    (case l_Letters_rank => k_is)
    (case c_Letters_rank => k_is)
    (case k_Letters_rank => k_is)
    (case l_rising => k_is)
    (case c_rising => k_is)
    (case k_rising => k_is)
    (case l_need_many => k_is)
    (case c_need_many => k_is)
    (case k_need_many => k_is)
    (case l_Jars___init__ => k_is)
    (case c_Jars___init__ => k_is)
    (case k_Jars___init__ => k_is)
    (case l_Marks___init__ => k_is)
    (case c_Marks___init__ => k_is)
    (case k_Marks___init__ => k_is)
    (case l_Marks_kept => k_is)
    (case c_Marks_kept => k_is)
    (case k_Marks_kept => k_is)
    (case l_Marks_many => k_is)
    (case c_Marks_many => k_is)
    (case k_Marks_many => k_is)
    (case l_Marks_letters => k_is)
    (case c_Marks_letters => k_is)
    (case k_Marks_letters => k_is)
    (case l_Marks___eq__ => k_is)
    (case c_Marks___eq__ => k_is)
    (case k_Marks___eq__ => k_is)
    (case l_Marks_full => k_is)
    (case c_Marks_full => k_is)
    (case k_Marks_full => k_is)
    (case l_Marks_keep => k_is)
    (case c_Marks_keep => k_is)
    (case k_Marks_keep => k_is)
    (case l_Marks_meet => k_is)
    (case c_Marks_meet => k_is)
    (case k_Marks_meet => k_is)
    (case l_Marks_made_smaller => k_is)
    (case c_Marks_made_smaller => k_is)
    (case k_Marks_made_smaller => k_is)
    (case l_Marks_pour => k_is)
    (case c_Marks_pour => k_is)
    (case k_Marks_pour => k_is)
    (case l_Marks_twin => k_is)
    (case c_Marks_twin => k_is)
    (case k_Marks_twin => k_is)
    (case l__law_begun => k_is)
    (case c__law_begun => k_is)
    (case k__law_begun => k_is)
    (case l__law_draw => k_is)
    (case c__law_draw => k_is)
    (case k__law_draw => k_is)
    (case l__law_alphabet => k_is)
    (case c__law_alphabet => k_is)
    (case k__law_alphabet => k_is)
    (case l__law_least => k_is)
    (case c__law_least => k_is)
    (case k__law_least => k_is)
    (case l__law_word => k_is)
    (case c__law_word => k_is)
    (case k__law_word => k_is)
    (case l__law_refused => k_is)
    (case c__law_refused => k_is)
    (case k__law_refused => k_is)
    (case l__law_stands => k_is)
    (case c__law_stands => k_is)
    (case k__law_stands => k_is)
    (case l__law_turn => k_is)
    (case c__law_turn => k_is)
    (case k__law_turn => k_is)
    (case l__law_refused_poured => k_is)
    (case c__law_refused_poured => k_is)
    (case k__law_refused_poured => k_is)
    (case lc__law_refused_poured => k_is)
    (case hv__law_refused_poured => exact rfl)
    (case tn__law_refused_poured => kernel_rfl)
    (case l__law_refused_first => k_is)
    (case c__law_refused_first => k_is)
    (case k__law_refused_first => k_is)
    (case lc__law_refused_first => k_is)
    (case hv__law_refused_first => exact rfl)
    (case tn__law_refused_first => kernel_rfl)
    (case l__law_refused_right => k_is)
    (case c__law_refused_right => k_is)
    (case k__law_refused_right => k_is)
    (case lc__law_refused_right => k_is)
    (case hv__law_refused_right => exact rfl)
    (case tn__law_refused_right => kernel_rfl)
    (case l_law => k_is)
    (case c_law => k_is)
    (case k_law => k_is)
    (case pg_Letters => k_is)
    (case hd_Letters => k_is)
    (case po_Letters => k_is)
    (case sa_Letters => k_is)
    (case mk_Letters => k_is)
    (case kc_Letters => k_is)
    (case ia_Letters => k_is)
    (case ib_Letters => k_is)
    (case ic_Letters => k_is)
    (case id_Letters => k_is)
    (case ie_Letters => exact if_pos (beq_self_eq_true _))
    (case n_ranks_Letters => k_is)
    (case i_Letters___init__ => k_is)
    (case i_Letters___eq__ => k_is)
    (case i_Letters_ranked => k_is)
    (case i_Letters_has => k_is)
    (case i_Letters_rank => k_is)
    (case pg_Jars => k_is)
    (case hd_Jars => k_is)
    (case po_Jars => k_is)
    (case sa_Jars => k_is)
    (case mk_Jars => k_is)
    (case kc_Jars => k_is)
    (case ia_Jars => k_is)
    (case ib_Jars => k_is)
    (case ic_Jars => k_is)
    (case id_Jars => k_is)
    (case ie_Jars => exact if_pos (beq_self_eq_true _))
    (case n_own_letters_Jars => k_is)
    (case n_jar_number_Jars => k_is)
    (case n_inside_Jars => k_is)
    (case n_lost_Jars => k_is)
    (case i_Jars___init__ => k_is)
    (case pg_Marks => k_is)
    (case hd_Marks => k_is)
    (case po_Marks => k_is)
    (case sa_Marks => k_is)
    (case mk_Marks => k_is)
    (case kc_Marks => k_is)
    (case ia_Marks => k_is)
    (case ib_Marks => k_is)
    (case ic_Marks => k_is)
    (case id_Marks => k_is)
    (case ie_Marks => exact if_pos (beq_self_eq_true _))
    (case n_own_letters_Marks => k_is)
    (case n_mark_number_Marks => k_is)
    (case n_marked_Marks => k_is)
    (case i_Marks___init__ => k_is)
    (case i_Marks___eq__ => k_is)
    (case i_Marks_letters => k_is)
    (case i_Marks_many => k_is)
    (case i_Marks_kept => k_is)
    (case i_Marks_full => k_is)
    (case i_Marks_meet => k_is)
    (case i_Marks_keep => k_is)
    (case i_Marks_made_smaller => k_is)
    (case i_Marks_pour => k_is)
    (case i_Marks_twin => k_is)
    (case nk_Marks_0 => kit_is)
    (case nk_Marks_1 => kit_is)
    (case nk_Marks_2 => kit_is)
    (case nk_Marks_3 => kit_is)
    (case nk_Marks_4 => kit_is)
    (case nk_Marks_5 => kit_is)
    (case ns_Marks_0 => k_is)
    (case ns_Marks_1 => k_is)
    (case xk_NoKeeper => k_is)
    (case xq_NoKeeper => k_exc)
    (case xs_NoKeeper => k_is)
    (case xt_NoKeeper => k_is)
    (case xi_NoKeeper => k_is)
    (case xu_NoKeeper => first | rfl | k_is)
    (case xg_NoKeeper => k_is)
    (case xh_NoKeeper => k_is)
    (case xd_NoKeeper => k_is)
    (case xa_NoKeeper => k_is)
    (case xn_NoKeeper => k_is)
    (case xw_NoKeeper => k_is)
    (case xm_NoKeeper => k_is)
    (case xv_NoKeeper => k_is)
    (case xk_NoMany => k_is)
    (case xq_NoMany => k_exc)
    (case xs_NoMany => k_is)
    (case xt_NoMany => k_is)
    (case xi_NoMany => k_is)
    (case xu_NoMany => first | rfl | k_is)
    (case xg_NoMany => k_is)
    (case xh_NoMany => k_is)
    (case xd_NoMany => k_is)
    (case xa_NoMany => k_is)
    (case xn_NoMany => k_is)
    (case xw_NoMany => k_is)
    (case xm_NoMany => k_is)
    (case xv_NoMany => k_is)
    (case xk_NoLetter => k_is)
    (case xs_NoLetter => k_is)
    (case xt_NoLetter => k_is)
    (case xg_NoLetter => k_is)
    (case xh_NoLetter => k_is)
    (case xd_NoLetter => k_is)
    (case xa_NoLetter => k_is)
    (case xn_NoLetter => k_is)
    (case xw_NoLetter => k_is)
    (case xm_NoLetter => k_is)
    (case xv_NoLetter => k_is)
    (case yo_NoLetter => kernel_rfl)
    (case ya_NoLetter => k_is)
    (case yt_NoLetter => k_is)
    (case yf_name_NoLetter => k_is)
    (case zs_LeftError => k_is)
    (case zd_LeftError => k_is)
    (case zt_LeftError => k_is)
    (case zl_NoMany => k_is)
    (case kk_NoMany_NoLetter => kit_is)
    (case kk_NoMany_NoTimes => kit_is)
    (case kk_NoMany_NoMany => kit_is)
    (case kk_NoMany_NoKeeper => kit_is)
    (case kk_NoMany_NoLetters => kit_is)
    (case kk_NoMany_NoFeed => kit_is)
    (case kk_NoMany_NoPast => kit_is)
    (case kk_NoMany_NoTally => kit_is)
    (case kk_NoMany_NoCount => kit_is)
    (case kk_NoMany_NoNumber => kit_is)
    (case kk_NoMany_NoDeed => kit_is)
    (case kk_NoMany_NoName => kit_is)
    (case zl_NoLetter => k_is)
    (case kk_NoLetter_NoLetter => kit_is)
    (case kk_NoLetter_NoTimes => kit_is)
    (case kk_NoLetter_NoMany => kit_is)
    (case kk_NoLetter_NoKeeper => kit_is)
    (case kk_NoLetter_NoLetters => kit_is)
    (case kk_NoLetter_NoFeed => kit_is)
    (case kk_NoLetter_NoPast => kit_is)
    (case kk_NoLetter_NoTally => kit_is)
    (case kk_NoLetter_NoCount => kit_is)
    (case kk_NoLetter_NoNumber => kit_is)
    (case kk_NoLetter_NoDeed => kit_is)
    (case kk_NoLetter_NoName => kit_is)
    (case zl_NoKeeper => k_is)
    (case kk_NoKeeper_NoLetter => kit_is)
    (case kk_NoKeeper_NoTimes => kit_is)
    (case kk_NoKeeper_NoMany => kit_is)
    (case kk_NoKeeper_NoKeeper => kit_is)
    (case kk_NoKeeper_NoLetters => kit_is)
    (case kk_NoKeeper_NoFeed => kit_is)
    (case kk_NoKeeper_NoPast => kit_is)
    (case kk_NoKeeper_NoTally => kit_is)
    (case kk_NoKeeper_NoCount => kit_is)
    (case kk_NoKeeper_NoNumber => kit_is)
    (case kk_NoKeeper_NoDeed => kit_is)
    (case kk_NoKeeper_NoName => kit_is)
    (case gc_MOST_JARS => k_is)
    (case nn_Letters => k_is)
    (case nn_Marks => k_is)
    (case wd__law_refused_first__law_refused_poured => kernel_rfl)
    (case wd__law_refused_first__law_refused_right => kernel_rfl)
    (case wd__law_refused_poured__law_refused_right => kernel_rfl)
