import PyProof.Rows.All
import Wide.All
import OpenK.AllK
import Wide.FinOn
import HandS.ForMost
import HandS.Evl
import HandS.IsInst
import HandS.Style
import HandS.SortInts
import HandS.ListItems
import HandS.DictComp
import KE.DatumMoreOrd
import KE.DatumIndex
import KE.GoesZip
import KE.GoesMore
import KE.KTupSum
import KE.KDictSum
import HandS.Zip
import HandS.SortKw
import HandS.TupMul
import HandS.SetKeys
import HandS.Conv
import HandS.TupAny
import HandS.OwnEq
import HandS.SlotsOwn
import HandS.HeadEnd
import KE.GoesEnum
import HandS.TupLe
import HandS.NoneIn
import HandS.SetFor
import HandS.Set
import HandS.Exc
import HandS.ExcOwn
import HandS.ExcIs
import HandS.WordsExc
import HandS.WideBits
import HandS.Text
import HandS.MakeKwOnly
import PyProof.InstEq
import KE.SortData
import KE.KItemsList
import HandS.DictTup
import PyProof.ConsumeS
import PyProof.WalkInts
import PyProof.GenQ
import HandS.Ends
import PyProof.ReprReads
import PyProof.Rows.StrMeet
import HandS.Finally
import HandS.ExcInit
import HandS.ExcField
import HandS.DeepEq
import PyProof.SliceList
import HandS.ListEq
import HandS.DictEq
import PyProof.NeKinds
import PySem.Challenge.RW_bygone_k51_ladders_poured
set_option Elab.async false
set_option linter.all false
set_option maxRecDepth 100000
set_option maxHeartbeats 4000000
/-! B: worlds (an unchanging part of the heap within the heap), data read off the unchanging part, what a reading evaluates to -/
namespace B
open PySem L2
abbrev SS := L2.St
abbrev Fg := PySem.W.Frag
open Evl (Ex)
open PySem.W (Tup T3 T4 Datum DatumOrd)

/-! ### heaps -/
/-- all is kept, but that a dict may be locked -/
def Ext (H H' : Hp) : Prop := ∀ a o, H a = some o → H' a = some o ∨ ((∃ kvs, o = HO.dK kvs) ∧ ∃ ob, H' a = some (.frz ob o))
theorem Ext.refl (H : Hp) : Ext H H := fun _ _ h => .inl h
theorem exExt {H H' : Hp} (e : Ex H H') : Ext H H' := fun a o h => .inl (e a o h)
theorem Ext.trans {H H1 H2 : Hp} (a : Ext H H1) (b : Ext H1 H2) : Ext H H2 := fun x o h => by
  rcases a x o h with h1 | ⟨⟨k, rfl⟩, ob, h1⟩
  · exact b x o h1
  · rcases b x _ h1 with h2 | ⟨⟨k', h2⟩, _⟩
    · exact .inr ⟨⟨k, rfl⟩, ob, h2⟩
    · cases h2
theorem Ext.rd {H H' : Hp} {a : Addr} {u : HO} (e : Ext H H') (h : Rd H a u) : Rd H' a u := by
  rcases h with h | ⟨o, h⟩
  · rcases e a _ h with h1 | ⟨_, ob, h1⟩
    · exact .inl h1
    · exact .inr ⟨ob, h1⟩
  · rcases e a _ h with h1 | ⟨⟨k, h1⟩, _⟩
    · exact .inr ⟨o, h1⟩
    · cases h1
theorem Ext.free {H H' : Hp} {p : Addr} (e : Ext H H') (h : H' p = none) : H p = none := by
  cases q : H p with
  | none => rfl
  | some o => rcases e p o q with h1 | ⟨_, ob, h1⟩ <;> (rw [h] at h1; cases h1)
theorem Ext.l {K : Fg} {H H' : Hp} {a : Addr} {xs : List V} (e : Ext H H') (h : SqL K H a xs) : SqL K H' a xs := by
  rcases h with h | h
  · exact .inl (e.rd h)
  · exact .inr h
theorem Ext.t {K : Fg} {H H' : Hp} {a : Addr} {xs : List V} (e : Ext H H') (h : SqT K H a xs) : SqT K H' a xs := by
  rcases h with h | h
  · exact .inl (e.rd h)
  · exact .inr h
theorem Ext.el {H H' : Hp} {a : Addr} {xs : List V} (e : Ext H H') (h : H a = some (.lst xs)) : H' a = some (.lst xs) := by
  rcases e a _ h with h1 | ⟨⟨_, q⟩, _⟩
  · exact h1
  · cases q
theorem Ext.et {H H' : Hp} {a : Addr} {xs : List V} (e : Ext H H') (h : H a = some (.tup xs)) : H' a = some (.tup xs) := by
  rcases e a _ h with h1 | ⟨⟨_, q⟩, _⟩
  · exact h1
  · cases q
theorem Ext.ins {H H' : Hp} {a C dx : Addr} {fs : List (Str × V)} (e : Ext H H') (h : H a = some (.ins C dx fs)) : H' a = some (.ins C dx fs) := by
  rcases e a _ h with h1 | ⟨⟨_, q⟩, _⟩
  · exact h1
  · cases q
theorem Ext.lock {H : Hp} {d : Addr} {kvs : List (Key × V)} {od : Obj} (h : H d = some (.dK kvs)) : Ext H (upd H d (.frz od (.dK kvs))) := fun a o e => by
  by_cases q : a = d
  · subst q
    rw [h] at e; cases e
    exact .inr ⟨⟨kvs, rfl⟩, od, upd_same⟩
  · exact .inl (by rw [upd_ne q]; exact e)

/-- a world: the heap H, within it the part B that stays as it is -/
structure Wd where
  B : Hp
  H : Hp
  sub : Ext B H
/-- a thing that is no tuple stands at a -/
def Nt (H : Hp) (a : Addr) : Prop := ∃ o, H a = some o ∧ ∀ xs, o ≠ .tup xs
theorem Nt.ne {H : Hp} {a : Addr} (h : Nt H a) : H a ≠ none := by
  obtain ⟨o, e, _⟩ := h
  rw [e]; exact fun z => by cases z
theorem Nt.l {H : Hp} {a : Addr} {xs : List V} (h : H a = some (.lst xs)) : Nt H a := ⟨_, h, fun _ z => by cases z⟩
theorem Nt.k {H : Hp} {a : Addr} {xs : List (Key × V)} (h : H a = some (.dK xs)) : Nt H a := ⟨_, h, fun _ z => by cases z⟩
/-- the world has moved on: what stays is as it was (and no more of it is locked), of the rest only S may have changed; what was free to change still is -/
structure Md (S : List Addr) (W W' : Wd) : Prop where
  b : Ex W.B W'.B
  l : ∀ a o, W.B a = some o → W.H a = some o → W'.H a = some o
  o : ∀ a o, a ∉ S → W.H a = some o → W'.H a = some o
  m : ∀ a, Nt W.H a → W'.B a = W.B a
  d : ∀ a, W.H a ≠ none → W'.H a ≠ none
  n : ∀ a, Nt W.H a → Nt W'.H a
theorem Md.refl (S : List Addr) (W : Wd) : Md S W W := ⟨Evl.Ex.refl _, fun _ _ _ h => h, fun _ _ _ h => h, fun _ _ => rfl, fun _ h => h, fun _ h => h⟩
theorem Md.trans {S : List Addr} {W W1 W2 : Wd} (a : Md S W W1) (b : Md S W1 W2) : Md S W W2 := ⟨a.b.trans b.b, fun x o h1 h2 => b.l x o (a.b x o h1) (a.l x o h1 h2), fun x o h1 h2 => b.o x o h1 (a.o x o h1 h2), fun x hx => by
  rw [b.m x (a.n x hx), a.m x hx], fun x hx => b.d x (a.d x hx), fun x hx => b.n x (a.n x hx)⟩
theorem Md.mono {S S' : List Addr} {W W' : Wd} (a : Md S W W') (h : ∀ x, x ∈ S → x ∈ S') : Md S' W W' := ⟨a.b, a.l, fun x o h1 h2 => a.o x o (fun z => h1 (h x z)) h2, a.m, a.d, a.n⟩
theorem Md.mut {S : List Addr} {W W' : Wd} (g : Md S W W') {a : Addr} {o : HO} (hS : a ∉ S) (h : W.H a = some o) (n : W.B a = none) (ho : ∀ xs, o ≠ .tup xs := by intro _ h; cases h) : W'.H a = some o ∧ W'.B a = none :=
  ⟨g.o a o hS h, by rw [g.m a ⟨o, h, ho⟩]; exact n⟩
abbrev Grow := Md []
theorem Md.h {W W' : Wd} (g : Md [] W W') : Ex W.H W'.H := fun a o e => g.o a o (by simp) e
theorem Grow.s {S : List Addr} {W W' : Wd} (g : Grow W W') : Md S W W' := g.mono fun _ h => by simp at h
theorem Grow.mk {W W' : Wd} (b : Ex W.B W'.B) (h : Ex W.H W'.H) (m : ∀ a, Nt W.H a → W'.B a = W.B a) : Grow W W' := ⟨b, fun a o _ h2 => h a o h2, fun a o _ h2 => h a o h2, m, fun a h2 z => (by
  cases q : W.H a with
  | none => exact h2 q
  | some o => rw [h a o q] at z; cases z), fun a ⟨o, e, ho⟩ => ⟨o, h a o e, ho⟩⟩
theorem Wd.free (W : Wd) {p : Addr} (h : W.H p = none) : W.B p = none := W.sub.free h
/-- a new thing that stays -/
def Wd.add (W : Wd) (p : Addr) (o : HO) : Wd := ⟨upd W.B p o, upd W.H p o, fun a u e => by
  by_cases q : a = p
  · subst q; rw [upd_same] at e; cases e; exact .inl upd_same
  · rw [upd_ne q] at e; rw [upd_ne q]; exact W.sub a u e⟩
theorem Wd.grow_add (W : Wd) {p : Addr} {o : HO} (h : W.H p = none) : Grow W (W.add p o) :=
  .mk (Evl.Ex.new (W.free h)) (Evl.Ex.new h) fun a ha => by
    have : a ≠ p := fun e => ha.ne (by rw [e]; exact h)
    show upd W.B p o a = W.B a
    rw [upd_ne this]
/-- a thing that may change, new or changed -/
def Wd.put (W : Wd) (p : Addr) (o : HO) (h : W.B p = none) : Wd := ⟨W.B, upd W.H p o, fun a u e => by
  have q : a ≠ p := fun q => by rw [q, h] at e; cases e
  rw [upd_ne q]; exact W.sub a u e⟩
theorem Wd.grow_put (W : Wd) {p : Addr} {o : HO} (h : W.H p = none) : Grow W (W.put p o (W.free h)) :=
  .mk (Evl.Ex.refl _) (Evl.Ex.new h) fun _ _ => rfl
theorem md_put {W : Wd} {p : Addr} {o : HO} (h : W.B p = none) (ho : ∀ xs, o ≠ .tup xs := by intro _ h; cases h) : Md [p] W (W.put p o h) := ⟨Evl.Ex.refl _, fun a u h1 h2 => by
    have : a ≠ p := fun e => by rw [e, h] at h1; cases h1
    show upd W.H p o a = some u
    rw [upd_ne this]; exact h2, fun a u h1 h2 => by
    have : a ≠ p := fun e => h1 (by rw [e]; simp)
    show upd W.H p o a = some u
    rw [upd_ne this]; exact h2, fun _ _ => rfl, fun a ha => by
    show upd W.H p o a ≠ none
    by_cases q : a = p
    · rw [q, upd_same]; exact fun z => by cases z
    · rw [upd_ne q]; exact ha, fun a ha => by
    show Nt (upd W.H p o) a
    by_cases q : a = p
    · rw [q]; exact ⟨o, upd_same, ho⟩
    · obtain ⟨u, e, hu⟩ := ha
      exact ⟨u, (upd_ne q).trans e, hu⟩⟩
/-- tuples never change: those at bs may be taken into what stays -/
def Wd.tup (W : Wd) (bs : List Addr) : Wd := ⟨fun b => match W.B b with
    | some o => some o
    | none => match W.H b with
      | some (.tup xs) => if b ∈ bs then some (.tup xs) else none
      | _ => none, W.H, fun b o e => by
  cases q : W.B b with
  | some u =>
    simp only [q] at e
    cases e
    exact W.sub b _ q
  | none =>
    simp only [q] at e
    cases q2 : W.H b with
    | none => simp only [q2] at e; cases e
    | some u =>
      cases u <;> simp only [q2] at e <;> try (cases e; done)
      split at e
      · cases e; exact .inl rfl
      · cases e⟩
theorem Wd.grow_tup (W : Wd) (bs : List Addr) : Grow W (W.tup bs) := .mk (fun b o e => by
    show (match W.B b with | some o => some o | none => _) = some o
    rw [e]) (fun _ _ h => h) fun b ⟨o, e, ho⟩ => by
  show (match W.B b with | some o => some o | none => _) = W.B b
  cases q : W.B b with
  | some u => rfl
  | none =>
    rw [e]
    cases o <;> first | rfl | exact absurd rfl (ho _)
theorem Wd.tup_at {W : Wd} {bs : List Addr} {b : Addr} {xs : List V} (h : W.H b = some (.tup xs)) (hb : b ∈ bs) : (W.tup bs).B b = some (.tup xs) := by
  show (match W.B b with | some o => some o | none => _) = _
  cases q : W.B b with
  | some u =>
    rcases W.sub b _ q with z | ⟨⟨k, rfl⟩, ob, z⟩
    · rw [h] at z; cases z; rfl
    · rw [h] at z; cases z
  | none =>
    simp only [h, if_pos hb]
/-- what an expression may do: S may change, I holds throughout -/
structure Ef where
  S : List Addr
  I : Wd → Prop
  dom : ∀ W a, I W → a ∈ S → Nt W.H a
  mv : ∀ W W', Ex W.B W'.B → (∀ a, a ∈ S → Nt W.H a → W'.H a = W.H a ∧ W'.B a = W.B a) → I W → I W'
theorem Ef.grow (ε : Ef) (W W' : Wd) (g : Grow W W') (h : ε.I W) : ε.I W' := ε.mv W W' g.b (fun a _ ha => by
  obtain ⟨o, q, _⟩ := id ha
  exact ⟨(g.h a o q).trans q.symm, g.m a ha⟩) h
theorem Ef.off {ε : Ef} {W : Wd} {D : Addr} (i : ε.I W) (h : W.H D = none) : D ∉ ε.S := fun z => (ε.dom W D i z).ne h
def pur : Ef := ⟨[], fun _ => True, fun _ _ _ h => by simp at h, fun _ _ _ _ _ => trivial⟩
structure Stp (ε : Ef) (W W' : Wd) : Prop where
  md : Md ε.S W W'
  i : ε.I W'
theorem Stp.rf {ε : Ef} {W W' : Wd} (a : Stp ε W W') : Stp ε W' W' := ⟨.refl _ _, a.i⟩
theorem Stp.start {ε : Ef} {W : Wd} (a : ε.I W) : Stp ε W W := ⟨.refl _ _, a⟩
theorem Stp.trans {ε : Ef} {W W1 W2 : Wd} (a : Stp ε W W1) (b : Stp ε W1 W2) : Stp ε W W2 := ⟨a.md.trans b.md, b.i⟩
theorem Stp.and {ε : Ef} {W W1 W2 : Wd} (a : Stp ε W W1) (b : Grow W1 W2) : Stp ε W W2 := ⟨a.md.trans (Grow.s b), ε.grow _ _ b a.i⟩
theorem Stp.pure {W W' : Wd} (a : Stp pur W W') : Grow W W' := a.md
theorem Stp.of {W W' : Wd} (a : Grow W W') : Stp pur W W' := ⟨a, trivial⟩

/-! ### data -/
class Py (α : Type) where
  rep : Fg → Hp → V → α → Prop
  mono : ∀ {K : Fg} {H H' : Hp} {v : V} {x : α}, Ext H H' → rep K H v x → rep K H' v x
abbrev rep {α : Type} [Py α] (K : Fg) (H : Hp) (v : V) (x : α) : Prop := Py.rep K H v x
theorem rex {α : Type} [Py α] {K : Fg} {H H' : Hp} {v : V} {x : α} (e : Ex H H') (h : rep K H v x) : rep K H' v x := Py.mono (exExt e) h
instance : Py Int := ⟨fun _ _ v i => v = .int i, fun _ h => h⟩
instance : Py Bool := ⟨fun _ _ v b => v = .bl b, fun _ h => h⟩
instance : Py Str := ⟨fun _ _ v s => v = .str s, fun _ h => h⟩
instance : Py Unit := ⟨fun _ _ v _ => v = .non, fun _ h => h⟩
/-- any value by itself -/
structure Raw where
  v : V
instance : Py Raw := ⟨fun _ _ v x => v = x.v, fun _ h => h⟩
abbrev Reps {α : Type} [Py α] (K : Fg) (H : Hp) (vs : List V) (xs : List α) : Prop := Paired (rep K H) vs xs
theorem Reps.mono {α : Type} [Py α] {K : Fg} {H H' : Hp} (e : Ext H H') : ∀ {vs : List V} {xs : List α}, Reps K H vs xs → Reps K H' vs xs
  | _, _, .nil => .nil
  | _, _, .cons a b => .cons (Py.mono e a) (Reps.mono e b)
theorem Reps.len {α : Type} [Py α] {K : Fg} {H : Hp} {vs : List V} {xs : List α} (h : Reps K H vs xs) : vs.length = xs.length := Paired.length h
theorem Reps.get {α : Type} [Py α] {K : Fg} {H : Hp} : ∀ {vs : List V} {xs : List α}, Reps K H vs xs → ∀ {i : Nat} {v : V}, vs[i]? = some v → ∃ x, xs[i]? = some x ∧ rep K H v x
  | _, _, .nil, i, v, e => by simp at e
  | _, _, .cons a b, 0, v, e => by simp at e; subst e; exact ⟨_, rfl, a⟩
  | _, _, .cons a b, i + 1, v, e => by
    obtain ⟨x, h1, h2⟩ := Reps.get b (i := i) (v := v) (by simpa using e)
    exact ⟨x, by simpa using h1, h2⟩
theorem Reps.get' {α : Type} [Py α] {K : Fg} {H : Hp} : ∀ {vs : List V} {xs : List α}, Reps K H vs xs → ∀ {i : Nat} {x : α}, xs[i]? = some x → ∃ v, vs[i]? = some v ∧ rep K H v x
  | _, _, .nil, i, v, e => by simp at e
  | _, _, .cons a b, 0, v, e => by simp at e; subst e; exact ⟨_, rfl, a⟩
  | _, _, .cons a b, i + 1, v, e => by
    obtain ⟨x, h1, h2⟩ := Reps.get' b (i := i) (x := v) (by simpa using e)
    exact ⟨x, by simpa using h1, h2⟩
theorem Reps.snoc {α : Type} [Py α] {K : Fg} {H : Hp} {vs : List V} {xs : List α} {v : V} {x : α} (h : Reps K H vs xs) (r : rep K H v x) : Reps K H (vs ++ [v]) (xs ++ [x]) := Paired.snoc h r
theorem Reps.app {α : Type} [Py α] {K : Fg} {H : Hp} : ∀ {vs ws : List V} {xs ys : List α}, Reps K H vs xs → Reps K H ws ys → Reps K H (vs ++ ws) (xs ++ ys)
  | _, _, _, _, .nil, h => h
  | _, _, _, _, .cons a b, h => .cons a (Reps.app b h)
theorem Reps.rev {α : Type} [Py α] {K : Fg} {H : Hp} : ∀ {vs : List V} {xs : List α}, Reps K H vs xs → Reps K H vs.reverse xs.reverse
  | _, _, .nil => .nil
  | _, _, .cons a b => by simp only [List.reverse_cons]; exact Reps.snoc (Reps.rev b) a
theorem Reps.take {α : Type} [Py α] {K : Fg} {H : Hp} : ∀ (n : Nat) {vs : List V} {xs : List α}, Reps K H vs xs → Reps K H (vs.take n) (xs.take n)
  | 0, _, _, _ => .nil
  | n + 1, _, _, .nil => .nil
  | n + 1, _, _, .cons a b => .cons a (Reps.take n b)
theorem Reps.drop {α : Type} [Py α] {K : Fg} {H : Hp} : ∀ (n : Nat) {vs : List V} {xs : List α}, Reps K H vs xs → Reps K H (vs.drop n) (xs.drop n)
  | 0, _, _, h => h
  | n + 1, _, _, .nil => .nil
  | n + 1, _, _, .cons a b => Reps.drop n b
theorem Reps.set {α : Type} [Py α] {K : Fg} {H : Hp} {v : V} {x : α} (r : rep K H v x) : ∀ {vs : List V} {xs : List α} (i : Nat), Reps K H vs xs → Reps K H (vs.set i v) (xs.set i x)
  | _, _, _, .nil => .nil
  | _, _, 0, .cons a b => .cons r b
  | _, _, i + 1, .cons a b => .cons a (Reps.set r i b)
theorem reps_int {K : Fg} {H : Hp} : ∀ {vs : List V} {ns : List Int}, Reps K H vs ns → vs = ns.map V.int
  | _, _, .nil => rfl
  | _, _, .cons a b => by rw [show _ = _ from a, reps_int b]; rfl
theorem int_reps {K : Fg} {H : Hp} : ∀ (ns : List Int), Reps K H (ns.map V.int) ns
  | [] => .nil
  | _ :: r => .cons rfl (int_reps r)
theorem reps_str {K : Fg} {H : Hp} : ∀ {vs : List V} {ns : List Str}, Reps K H vs ns → vs = ns.map V.str
  | _, _, .nil => rfl
  | _, _, .cons a b => by rw [show _ = _ from a, reps_str b]; rfl
theorem str_reps {K : Fg} {H : Hp} : ∀ (ns : List Str), Reps K H (ns.map V.str) ns
  | [] => .nil
  | _ :: r => .cons rfl (str_reps r)
theorem reps_bl {K : Fg} {H : Hp} : ∀ {vs : List V} {ns : List Bool}, Reps K H vs ns → vs = ns.map V.bl
  | _, _, .nil => rfl
  | _, _, .cons a b => by rw [show _ = _ from a, reps_bl b]; rfl
theorem bl_reps {K : Fg} {H : Hp} : ∀ (ns : List Bool), Reps K H (ns.map V.bl) ns
  | [] => .nil
  | _ :: r => .cons rfl (bl_reps r)
instance {α : Type} [Py α] : Py (List α) := ⟨fun K H v xs => ∃ a vs, v = .ref a ∧ H a = some (.lst vs) ∧ Reps K H vs xs,
  fun e ⟨a, vs, h1, h2, h3⟩ => ⟨a, vs, h1, e.el h2, Reps.mono e h3⟩⟩
instance {α : Type} [Py α] : Py (Tup α) := ⟨fun K H v xs => ∃ a vs, v = .ref a ∧ H a = some (.tup vs) ∧ Reps K H vs xs.items,
  fun e ⟨a, vs, h1, h2, h3⟩ => ⟨a, vs, h1, e.et h2, Reps.mono e h3⟩⟩
instance {α β : Type} [Py α] [Py β] : Py (α × β) := ⟨fun K H v p => ∃ a x y, v = .ref a ∧ H a = some (.tup [x, y]) ∧ rep K H x p.1 ∧ rep K H y p.2,
  fun e ⟨a, x, y, h1, h2, h3, h4⟩ => ⟨a, x, y, h1, e.et h2, Py.mono e h3, Py.mono e h4⟩⟩
instance {α β γ : Type} [Py α] [Py β] [Py γ] : Py (T3 α β γ) := ⟨fun K H v p => ∃ a x y z, v = .ref a ∧ H a = some (.tup [x, y, z]) ∧ rep K H x p.a ∧ rep K H y p.b ∧ rep K H z p.c,
  fun e ⟨a, x, y, z, h1, h2, h3, h4, h5⟩ => ⟨a, x, y, z, h1, e.et h2, Py.mono e h3, Py.mono e h4, Py.mono e h5⟩⟩
instance {α β γ δ : Type} [Py α] [Py β] [Py γ] [Py δ] : Py (T4 α β γ δ) := ⟨fun K H v p => ∃ a x y z w, v = .ref a ∧ H a = some (.tup [x, y, z, w]) ∧ rep K H x p.a ∧ rep K H y p.b ∧ rep K H z p.c ∧ rep K H w p.d,
  fun e ⟨a, x, y, z, w, h1, h2, h3, h4, h5, h6⟩ => ⟨a, x, y, z, w, h1, e.et h2, Py.mono e h3, Py.mono e h4, Py.mono e h5, Py.mono e h6⟩⟩
instance {α : Type} [Py α] : Py (Option α) := ⟨fun K H v o => match o with | none => v = .non | some x => rep K H v x,
  fun {_ _ _ _ o} e h => match o, h with | none, h => h | some _, h => Py.mono e h⟩
class PyKey (κ : Type) where
  key : κ → Key
  inj : ∀ {a b : κ}, key a = key b → a = b
instance : PyKey Int := ⟨.inl, fun h => Sum.inl.inj h⟩
instance : PyKey Str := ⟨.inr, fun h => Sum.inr.inj h⟩
structure Dict (κ α : Type) where
  kv : List (κ × α)
abbrev KReps {κ α : Type} [PyKey κ] [Py α] (K : Fg) (H : Hp) (ks : List (Key × V)) (xs : List (κ × α)) : Prop := Paired (fun p q => p.1 = PyKey.key q.1 ∧ rep K H p.2 q.2) ks xs
theorem KReps.mono {κ α : Type} [PyKey κ] [Py α] {K : Fg} {H H' : Hp} (e : Ext H H') : ∀ {vs : List (Key × V)} {xs : List (κ × α)}, KReps K H vs xs → KReps K H' vs xs
  | _, _, .nil => .nil
  | _, _, .cons a b => .cons ⟨a.1, Py.mono e a.2⟩ (KReps.mono e b)
theorem KReps.len {κ α : Type} [PyKey κ] [Py α] {K : Fg} {H : Hp} {vs : List (Key × V)} {xs : List (κ × α)} (h : KReps K H vs xs) : vs.length = xs.length := Paired.length h
theorem KReps.get {κ α : Type} [PyKey κ] [Py α] {K : Fg} {H : Hp} : ∀ {vs : List (Key × V)} {xs : List (κ × α)}, KReps K H vs xs → ∀ {i : Nat} {k : Key} {v : V}, vs[i]? = some (k, v) → ∃ q, xs[i]? = some q ∧ k = PyKey.key q.1 ∧ rep K H v q.2
  | _, _, .nil, i, k, v, e => by simp at e
  | _, _, .cons a b, 0, k, v, e => by simp at e; subst e; exact ⟨_, rfl, a⟩
  | _, _, .cons a b, i + 1, k, v, e => by
    obtain ⟨x, h1, h2⟩ := KReps.get b (i := i) (k := k) (v := v) (by simpa using e)
    exact ⟨x, by simpa using h1, h2⟩
instance {κ α : Type} [PyKey κ] [Py α] : Py (Dict κ α) := ⟨fun K H v d => ∃ a ks, v = .ref a ∧ Rd H a (.dK ks) ∧ KReps K H ks d.kv,
  fun e ⟨a, vs, h1, h2, h3⟩ => ⟨a, vs, h1, e.rd h2, KReps.mono e h3⟩⟩
theorem key_rep {κ : Type} [PyKey κ] [Py κ] (K : Fg) (H : Hp) (h : ∀ k : κ, rep K H (kV (PyKey.key k)) k) (k : κ) : rep K H (kV (PyKey.key k)) k := h k
class PyKV (κ : Type) extends PyKey κ, Py κ where
  krep : ∀ (K : Fg) (H : Hp) (k : κ), Py.rep K H (kV (key k)) k
  keyv : ∀ {K : Fg} {H : Hp} {v : V} {k : κ}, Py.rep K H v k → v = kV (key k)
instance : PyKV Int := { krep := fun _ _ _ => rfl, keyv := fun h => h }
instance : PyKV Str := { krep := fun _ _ _ => rfl, keyv := fun h => h }
/-! ### data that == tells apart -/
class PyD (α : Type) [DecidableEq α] [Datum α] [Py α] : Prop where
  dp : ∀ {K : Fg} {H : Hp} {v : V} {x : α}, rep K H v x → Dp K H v (Datum.toD x)
theorem reps_dp {α : Type} [DecidableEq α] [Datum α] [Py α] [PyD α] {K : Fg} {H : Hp} : ∀ {vs : List V} {xs : List α}, Reps K H vs xs → DpAll K H vs (xs.map Datum.toD)
  | _, _, .nil => .nil
  | _, _, .cons a b => .cons (PyD.dp a) (reps_dp b)
instance : PyD Int := ⟨fun {K H v x} h => by rw [show v = _ from h]; exact .int x⟩
instance : PyD Bool := ⟨fun {K H v x} h => by rw [show v = _ from h]; exact .bl x⟩
instance : PyD Str := ⟨fun {K H v x} h => by rw [show v = _ from h]; exact .str x⟩
instance : PyD Unit := ⟨fun {K H v x} h => by rw [show v = _ from h]; exact .non⟩
section
variable {α β γ δ : Type} [DecidableEq α] [Datum α] [Py α] [PyD α] [DecidableEq β] [Datum β] [Py β] [PyD β] [DecidableEq γ] [Datum γ] [Py γ] [PyD γ] [DecidableEq δ] [Datum δ] [Py δ] [PyD δ]
instance : PyD (List α) := ⟨fun ⟨a, vs, e, h, r⟩ => by rw [e]; exact .lst (SqL.of h) (reps_dp r)⟩
instance : PyD (Tup α) := ⟨fun ⟨a, vs, e, h, r⟩ => by rw [e]; exact .tup (SqT.of h) (reps_dp r)⟩
instance : PyD (α × β) := ⟨fun ⟨a, x, y, e, h, r1, r2⟩ => by rw [e]; exact .tup (SqT.of h) (.cons (PyD.dp r1) (.cons (PyD.dp r2) .nil))⟩
instance : PyD (T3 α β γ) := ⟨fun ⟨a, x, y, z, e, h, r1, r2, r3⟩ => by rw [e]; exact .tup (SqT.of h) (.cons (PyD.dp r1) (.cons (PyD.dp r2) (.cons (PyD.dp r3) .nil)))⟩
instance : PyD (T4 α β γ δ) := ⟨fun ⟨a, x, y, z, w, e, h, r1, r2, r3, r4⟩ => by rw [e]; exact .tup (SqT.of h) (.cons (PyD.dp r1) (.cons (PyD.dp r2) (.cons (PyD.dp r3) (.cons (PyD.dp r4) .nil))))⟩
end
theorem holds_of {X : Cx} {pins : List (Addr × Obj)} {σ : SS} {H : Hp} {s : Shared} {α : Type} [DecidableEq α] [Datum α] {v : V} {u : Value} {x : α} (I : Inv X pins σ H s) (h : Dp X.K H v (Datum.toD x)) (r : RelV v u) : PySem.W.Holds s.heap u x := Dp.reads I _ v u h r
/-- == of two such of one type -/
def rEqT (K : Fg) (neg : Bool) : R2 := fun x y H Q => ∃ (α : Type) (_ : DecidableEq α) (_ : Datum α) (a b : α), Dp K H x (Datum.toD a) ∧ Dp K H y (Datum.toD b) ∧ Datum.depth α ≤ 60 ∧ Q (.bl (if neg then !decide (a = b) else decide (a = b))) H
def rLtT (K : Fg) : R2 := fun x y H Q => ∃ (α : Type) (_ : DecidableEq α) (_ : DatumOrd α) (a b : α), Dp K H x (Datum.toD a) ∧ Dp K H y (Datum.toD b) ∧ Datum.depth α ≤ 60 ∧ Q (.bl (DatumOrd.lt a b)) H
def rInTL (K : Fg) (neg : Bool) : R2 := fun x y H Q => ∃ (α : Type) (_ : DecidableEq α) (_ : Datum α) (a : α) (b : List α), Dp K H x (Datum.toD a) ∧ Dp K H y (Datum.toD b) ∧ Datum.depth α ≤ 60 ∧ Q (.bl (if neg then !decide (a ∈ b) else decide (a ∈ b))) H
def rInTT (K : Fg) (neg : Bool) : R2 := fun x y H Q => ∃ (α : Type) (_ : DecidableEq α) (_ : Datum α) (a : α) (b : Tup α), Dp K H x (Datum.toD a) ∧ Dp K H y (Datum.toD b) ∧ Datum.depth α ≤ 60 ∧ Q (.bl (if neg then !decide (a ∈ b.items) else decide (a ∈ b.items))) H
section
variable {X : Cx}
theorem op_eqT (hu : X.A.units + 64 < cLine) : OpR X (compareOp .Eq) (rEqT X.K false) := by
  intro pins s σ H x y v u Q I rx ry h
  obtain ⟨α, _, _, a, b, ha, hb, hd, q⟩ := h
  exact PySem.W.eq_datum (holds_of I ha rx) (holds_of I hb ry) (by omega) ⟨.bl _, H, I, rfl, q⟩
theorem op_neT (hu : X.A.units + 64 < cLine) : OpR X (compareOp .NotEq) (rEqT X.K true) := by
  intro pins s σ H x y v u Q I rx ry h
  obtain ⟨α, _, _, a, b, ha, hb, hd, q⟩ := h
  refine PySem.W.ne_datum (holds_of I ha rx) (holds_of I hb ry) (by omega) ⟨.bl _, H, I, ?_, q⟩
  show Value.bool _ = Value.bool _
  simp
theorem op_ltTT (hu : X.A.units + 64 < cLine) : OpR X (compareOp .Lt) (rLtT X.K) := by
  intro pins s σ H x y v u Q I rx ry h
  obtain ⟨α, _, _, a, b, ha, hb, hd, q⟩ := h
  exact PySem.W.lt_datum (holds_of I ha rx) (holds_of I hb ry) (by omega) ⟨.bl _, H, I, rfl, q⟩
theorem op_inTL (hu : X.A.units + 64 < cLine) : OpR X (compareOp .In) (rInTL X.K false) := by
  intro pins s σ H x y v u Q I rx ry h
  obtain ⟨α, _, _, a, b, ha, hb, hd, q⟩ := h
  obtain ⟨l, vs, rfl, hl, H2⟩ := PySem.W.list_of_holds (holds_of I hb ry)
  exact PySem.W.in_list_datum hl H2 (holds_of I ha rx) (by omega) ⟨.bl _, H, I, rfl, q⟩
theorem op_notInTL (hu : X.A.units + 64 < cLine) : OpR X (compareOp .NotIn) (rInTL X.K true) := by
  intro pins s σ H x y v u Q I rx ry h
  obtain ⟨α, _, _, a, b, ha, hb, hd, q⟩ := h
  obtain ⟨l, vs, rfl, hl, H2⟩ := PySem.W.list_of_holds (holds_of I hb ry)
  refine PySem.W.notIn_list_datum hl H2 (holds_of I ha rx) (by omega) ⟨.bl _, H, I, ?_, q⟩
  show Value.bool _ = Value.bool _
  simp
theorem op_inTT (hu : X.A.units + 64 < cLine) : OpR X (compareOp .In) (rInTT X.K false) := by
  intro pins s σ H x y v u Q I rx ry h
  obtain ⟨α, _, _, a, b, ha, hb, hd, q⟩ := h
  obtain ⟨l, vs, rfl, hl, H2⟩ := PySem.W.tup_of_holds (holds_of I hb ry)
  exact PySem.W.in_tuple_datum hl H2 (holds_of I ha rx) (by omega) ⟨.bl _, H, I, rfl, q⟩
theorem op_notInTT (hu : X.A.units + 64 < cLine) : OpR X (compareOp .NotIn) (rInTT X.K true) := by
  intro pins s σ H x y v u Q I rx ry h
  obtain ⟨α, _, _, a, b, ha, hb, hd, q⟩ := h
  obtain ⟨l, vs, rfl, hl, H2⟩ := PySem.W.tup_of_holds (holds_of I hb ry)
  refine PySem.W.notIn_tuple_datum hl H2 (holds_of I ha rx) (by omega) ⟨.bl _, H, I, ?_, q⟩
  show Value.bool _ = Value.bool _
  simp
end
end B
/-! B: what a reading evaluates to in a world -/
namespace B
open PySem L2
open Evl (Ex)
open PySem.W (Tup T3 T4 Datum DatumOrd)

/-- later: what stays is as it was, and no more of it is locked -/
structure On (W W' : Wd) : Prop where
  b : Ex W.B W'.B
  l : ∀ a o, W.B a = some o → W.H a = some o → W'.H a = some o
theorem On.refl (W : Wd) : On W W := ⟨Evl.Ex.refl _, fun _ _ _ h => h⟩
theorem On.trans {W W1 W2 : Wd} (x : On W W1) (y : On W1 W2) : On W W2 := ⟨x.b.trans y.b, fun a o h1 h2 => y.l a o (x.b a o h1) (x.l a o h1 h2)⟩
theorem Md.on {S : List Addr} {W W' : Wd} (g : Md S W W') : On W W' := ⟨g.b, g.l⟩
theorem Stp.on {ε : Ef} {W W' : Wd} (g : Stp ε W W') : On W W' := g.md.on

section
variable {α β γ : Type} [Py α] [Py β] [Py γ] {K : Fg} {σ : SS} {W W' : Wd} {v : V} {x : α} {ε : Ef} {S : List Addr}
theorem rep_g (g : Md S W W') (h : rep K W.B v x) : rep K W'.B v x := rex g.b h
theorem rep_s (g : Stp ε W W') (h : rep K W.B v x) : rep K W'.B v x := rex g.md.b h
theorem rep_on (g : On W W') (h : rep K W.B v x) : rep K W'.B v x := rex g.b h
theorem rep_h (h : rep K W.B v x) : rep K W.H v x := Py.mono W.sub h
end
/-- an unlocked dict that stays -/
def DictAt {κ α : Type} [PyKey κ] [Py α] (K : Fg) (W : Wd) (v : V) (d : Dict κ α) : Prop :=
  ∃ a ks, v = .ref a ∧ W.B a = some (.dK ks) ∧ W.H a = some (.dK ks) ∧ KReps K W.B ks d.kv
section
variable {κ α : Type} [PyKey κ] [Py α] {K : Fg} {W W' : Wd} {v : V} {d : Dict κ α} {ε : Ef} {S : List Addr}
theorem DictAt.rep (h : DictAt K W v d) : rep K W.B v d := by
  obtain ⟨a, ks, h1, h2, h3, h4⟩ := h
  exact ⟨a, ks, h1, .inl h2, h4⟩
theorem DictAt.on (g : On W W') (h : DictAt K W v d) : DictAt K W' v d := by
  obtain ⟨a, ks, h1, h2, h3, h4⟩ := h
  exact ⟨a, ks, h1, g.b _ _ h2, g.l _ _ h2 h3, KReps.mono (exExt g.b) h4⟩
theorem DictAt.g (g : Md S W W') (h : DictAt K W v d) : DictAt K W' v d := h.on g.on
theorem DictAt.s (g : Stp ε W W') (h : DictAt K W v d) : DictAt K W' v d := h.on g.on
end

theorem nodup_le {α : Type} [DecidableEq α] : ∀ {l m : List α}, l.Nodup → (∀ x ∈ l, x ∈ m) → l.length ≤ m.length
  | [], _, _, _ => Nat.zero_le _
  | x :: l, m, n, h => by
    rw [List.nodup_cons] at n
    have hx := h x List.mem_cons_self
    have := nodup_le (m := m.erase x) n.2 fun y hy => (List.mem_erase_of_ne (fun (e : y = x) => n.1 (e ▸ hy))).mpr (h y (List.mem_cons_of_mem _ hy))
    rw [List.length_erase_of_mem hx] at this
    have : 0 < m.length := List.length_pos_of_mem hx
    rw [List.length_cons]
    omega
/-! tables -/
section
variable {κ α : Type} [DecidableEq κ]
def klook (kv : List (κ × α)) (k : κ) : Option α := (kv.find? fun q => decide (q.1 = k)).map (·.2)
def kput (kv : List (κ × α)) (k : κ) (v : α) : List (κ × α) := if (kv.any fun q => decide (q.1 = k)) = true then kv.map (fun q => if q.1 = k then (q.1, v) else q) else kv ++ [(k, v)]
def kdrop (kv : List (κ × α)) (k : κ) : List (κ × α) := kv.filter fun q => decide (q.1 ≠ k)
theorem klook_nil {k : κ} : klook ([] : List (κ × α)) k = none := rfl
theorem klook_cons {q : κ × α} {kv : List (κ × α)} {k : κ} : klook (q :: kv) k = if q.1 = k then some q.2 else klook kv k := by
  unfold klook
  rw [List.find?_cons]
  by_cases h : q.1 = k
  · simp [h]
  · simp [h]
theorem klook_none {k : κ} : ∀ {kv : List (κ × α)}, klook kv k = none ↔ k ∉ kv.map (·.1)
  | [] => by simp [klook_nil]
  | q :: kv => by
    rw [klook_cons]
    by_cases h : q.1 = k
    · simp [h]
    · rw [if_neg h, klook_none, List.map_cons, List.mem_cons, not_or]
      exact ⟨fun z => ⟨fun e => h e.symm, z⟩, fun z => z.2⟩
theorem klook_mem {k : κ} {v : α} : ∀ {kv : List (κ × α)}, klook kv k = some v → (k, v) ∈ kv
  | [], h => by simp [klook_nil] at h
  | q :: kv, h => by
    rw [klook_cons] at h
    by_cases e : q.1 = k
    · rw [if_pos e] at h
      have : q = (k, v) := Prod.ext e (Option.some.inj h)
      rw [this]; exact List.mem_cons_self
    · rw [if_neg e] at h; exact List.mem_cons_of_mem _ (klook_mem h)
theorem klook_of_mem {k : κ} {v : α} : ∀ {kv : List (κ × α)}, (kv.map (·.1)).Nodup → (k, v) ∈ kv → klook kv k = some v
  | [], _, h => by simp at h
  | q :: kv, n, h => by
    rw [List.map_cons, List.nodup_cons] at n
    rw [klook_cons]
    rcases List.mem_cons.mp h with e | h
    · rw [← e]; simp
    · have : q.1 ≠ k := fun z => n.1 (List.mem_map.mpr ⟨(k, v), h, z.symm⟩)
      rw [if_neg this]; exact klook_of_mem n.2 h
theorem kput_mem {kv : List (κ × α)} {k : κ} {v : α} {q : κ × α} (h : q ∈ kput kv k v) : q ∈ kv ∨ q = (k, v) := by
  unfold kput at h
  split at h
  · obtain ⟨q', h1, h2⟩ := List.mem_map.mp h
    by_cases e : q'.1 = k
    · rw [if_pos e] at h2; exact .inr (by rw [← h2, e])
    · rw [if_neg e] at h2; exact .inl (h2 ▸ h1)
  · rcases List.mem_append.mp h with h | h
    · exact .inl h
    · exact .inr (by simpa using h)
theorem kput_keys_nodup {kv : List (κ × α)} {k : κ} {v : α} (n : (kv.map (·.1)).Nodup) : ((kput kv k v).map (·.1)).Nodup := by
  unfold kput
  split
  · have : (kv.map (fun q => if q.1 = k then (q.1, v) else q)).map (·.1) = kv.map (·.1) := by
      rw [List.map_map]
      refine List.map_congr_left fun q _ => ?_
      show (if q.1 = k then (q.1, v) else q).1 = q.1
      split <;> rfl
    rw [this]; exact n
  · rename_i h
    rw [List.map_append, List.map_cons, List.map_nil, List.nodup_append]
    refine ⟨n, by simp, fun a ha b hb => ?_⟩
    have e : b = k := by simpa using hb
    subst e
    intro z
    subst z
    obtain ⟨q, h1, h2⟩ := List.mem_map.mp ha
    exact h (List.any_eq_true.mpr ⟨q, h1, by simp [h2]⟩)
theorem kput_len (kv : List (κ × α)) (k : κ) (v : α) : (kput kv k v).length ≤ kv.length + 1 := by
  unfold kput
  split <;> simp
theorem klook_put (kv : List (κ × α)) (k j : κ) (v : α) : klook (kput kv k v) j = if j = k then some v else klook kv j := by
  unfold kput
  by_cases h : (kv.any fun q => decide (q.1 = k)) = true
  · rw [if_pos h]
    have main : ∀ kv : List (κ × α), klook (kv.map (fun q => if q.1 = k then (q.1, v) else q)) j = if j = k then (if k ∈ kv.map (·.1) then some v else none) else klook kv j := by
      intro kv
      induction kv with
      | nil => simp [klook_nil]
      | cons q kv ih =>
        rw [List.map_cons, klook_cons, ih, klook_cons, List.map_cons]
        by_cases e : q.1 = k
        · rw [if_pos e]
          by_cases e2 : j = k
          · subst e2; simp [e]
          · have : ¬ q.1 = j := fun z => e2 (z.symm.trans e)
            simp [e2, this]
        · rw [if_neg e]
          by_cases e2 : j = k
          · subst e2
            have : ¬ j = q.1 := fun z => e z.symm
            rw [if_neg e, if_pos rfl, if_pos rfl]
            by_cases hm : j ∈ kv.map (·.1)
            · rw [if_pos hm, if_pos (List.mem_cons_of_mem _ hm)]
            · rw [if_neg hm, if_neg (fun z => (List.mem_cons.mp z).elim this hm)]
          · simp [e2]
    rw [main]
    obtain ⟨q, h1, h2⟩ := List.any_eq_true.mp h
    have : k ∈ kv.map (·.1) := List.mem_map.mpr ⟨q, h1, of_decide_eq_true h2⟩
    rw [if_pos this]
  · rw [if_neg h]
    have hk : k ∉ kv.map (·.1) := fun z => by
      obtain ⟨q, h1, h2⟩ := List.mem_map.mp z
      exact h (List.any_eq_true.mpr ⟨q, h1, by simp [h2]⟩)
    clear h
    induction kv with
    | nil =>
      rw [List.nil_append, klook_cons, klook_nil]
      by_cases e : j = k
      · simp [e]
      · have : ¬ k = j := fun z => e z.symm
        simp [e, this]
    | cons q kv ih =>
      rw [List.map_cons, List.mem_cons, not_or] at hk
      rw [List.cons_append, klook_cons, ih hk.2, klook_cons]
      by_cases e : q.1 = j
      · have : ¬ j = k := fun z => hk.1 (z.symm.trans e.symm)
        simp [e, this]
      · simp [e]
end
section
variable {κ α : Type} [DecidableEq κ] [PyKey κ] [Py α] {K : Fg} {H : Hp} {ks : List (Key × V)} {kv : List (κ × α)}
theorem key_eq {a b : κ} : (PyKey.key a : Key) = PyKey.key b ↔ a = b := ⟨fun h => PyKey.inj h, fun h => by rw [h]⟩
theorem KReps.any (r : KReps K H ks kv) (k : κ) : (ks.any fun q => decide (q.1 = PyKey.key k)) = kv.any fun q => decide (q.1 = k) := by
  induction r with
  | nil => rfl
  | cons a b ih =>
    rw [List.any_cons, List.any_cons, ih, a.1]
    congr 1
    exact decide_eq_decide.mpr key_eq
theorem KReps.put {v : V} {x : α} (r : KReps K H ks kv) (k : κ) (rv : rep K H v x) : KReps K H (putK ks (PyKey.key k) v) (kput kv k x) := by
  unfold putK kput
  rw [r.any k]
  split
  · rename_i hx
    clear hx
    induction r with
    | nil => exact .nil
    | @cons a b l1 l2 h t ih =>
      rw [List.map_cons, List.map_cons]
      refine .cons ?_ ih
      by_cases e : b.1 = k
      · have : a.1 = PyKey.key k := by rw [h.1, e]
        rw [if_pos e, if_pos this]
        exact ⟨h.1, rv⟩
      · have : ¬ a.1 = PyKey.key k := fun z => e (PyKey.inj (h.1.symm.trans z))
        rw [if_neg e, if_neg this]
        exact h
  · exact Paired.snoc r ⟨rfl, rv⟩
theorem KReps.none (r : KReps K H ks kv) {k : κ} (h : klook kv k = none) : valV ks (PyKey.key k) = none := by
  induction r with
  | nil => rfl
  | @cons a b l1 l2 hh t ih =>
    rw [klook_cons] at h
    by_cases e : b.1 = k
    · rw [if_pos e] at h; cases h
    · rw [if_neg e] at h
      rw [valV_neg (fun z => e (PyKey.inj (hh.1.symm.trans z)))]
      exact ih h
theorem KReps.some (r : KReps K H ks kv) {k : κ} {x : α} (h : klook kv k = some x) : ∃ v, valV ks (PyKey.key k) = some v ∧ rep K H v x := by
  induction r with
  | nil => simp [klook_nil] at h
  | @cons a b l1 l2 hh t ih =>
    rw [klook_cons] at h
    by_cases e : b.1 = k
    · rw [if_pos e] at h
      cases h
      exact ⟨a.2, valV_pos (by rw [hh.1, e]), hh.2⟩
    · rw [if_neg e] at h
      obtain ⟨v, h1, h2⟩ := ih h
      exact ⟨v, by rw [valV_neg (fun z => e (PyKey.inj (hh.1.symm.trans z)))]; exact h1, h2⟩
theorem KReps.drop (r : KReps K H ks kv) (k : κ) : KReps K H (dropK ks (PyKey.key k)) (kdrop kv k) := by
  unfold dropK kdrop
  induction r with
  | nil => exact .nil
  | @cons a b l1 l2 hh t ih =>
    rw [List.filter_cons, List.filter_cons]
    by_cases e : b.1 = k
    · have : a.1 = PyKey.key k := by rw [hh.1, e]
      simp only [e, this, ne_eq, not_true_eq_false, decide_false, Bool.false_eq_true, if_false]
      exact ih
    · have : ¬ a.1 = PyKey.key k := fun z => e (PyKey.inj (hh.1.symm.trans z))
      simp only [e, this, ne_eq, not_false_eq_true, decide_true, if_true]
      exact .cons hh ih
end
/-- what stands at p shall stay -/
def Wd.fix (W : Wd) (p : Addr) (o : HO) (h : W.H p = some o) : Wd := ⟨upd W.B p o, W.H, fun a u e => by
  by_cases q : a = p
  · subst q; rw [upd_same] at e; cases e; exact .inl h
  · rw [upd_ne q] at e; exact W.sub a u e⟩
theorem md_fix {S : List Addr} {W W' : Wd} (g : Md S W W') {p : Addr} {o : HO} (h : W'.H p = some o) (n : W'.B p = none) (f : W.H p = none) : Md S W (W'.fix p o h) := by
  refine ⟨fun a u e => ?_, fun a u e1 e2 => g.l a u e1 e2, g.o, fun a ha => ?_, g.d, g.n⟩
  · have q : a ≠ p := fun z => by rw [z] at e; rw [W.free f] at e; cases e
    show upd W'.B p o a = some u
    rw [upd_ne q]; exact g.b a u e
  · have q : a ≠ p := fun z => ha.ne (by rw [z]; exact f)
    show upd W'.B p o a = W.B a
    rw [upd_ne q]; exact g.m a ha
theorem ex_fix {W : Wd} {p : Addr} {o : HO} (h : W.H p = some o) (n : W.B p = none) : Ex W.B (W.fix p o h).B := fun a u e => by
  have q : a ≠ p := fun z => by rw [z, n] at e; cases e
  show upd W.B p o a = some u
  rw [upd_ne q]; exact e
theorem md_mut {S : List Addr} {W W' : Wd} (g : Md S W W') {p : Addr} {o : HO} (n : W'.B p = none) (f : W.H p = none) : Md S W (W'.put p o n) := by
  refine ⟨g.b, fun a u e1 e2 => ?_, fun a u e1 e2 => ?_, g.m, fun a ha => ?_, fun a ha => ?_⟩
  · have q : a ≠ p := fun z => by rw [z, f] at e2; cases e2
    show upd W'.H p o a = some u
    rw [upd_ne q]; exact g.l a u e1 e2
  · have q : a ≠ p := fun z => by rw [z, f] at e2; cases e2
    show upd W'.H p o a = some u
    rw [upd_ne q]; exact g.o a u e1 e2
  · show upd W'.H p o a ≠ none
    by_cases q : a = p
    · rw [q, upd_same]; exact fun z => by cases z
    · rw [upd_ne q]; exact g.d a ha
  · have q : a ≠ p := fun z => ha.ne (by rw [z]; exact f)
    obtain ⟨u, e, hu⟩ := g.n a ha
    exact ⟨u, (upd_ne q).trans e, hu⟩
/-- what I tells stays where only p, which is none of S, changes -/
theorem i_put {ε : Ef} {W : Wd} {p : Addr} {o : HO} (hS : p ∉ ε.S) (i : ε.I W) (n : W.B p = none) : ε.I (W.put p o n) :=
  ε.mv W _ (Evl.Ex.refl _) (fun a h1 _ => ⟨upd_ne fun e => hS (e ▸ h1), rfl⟩) i
theorem i_fix {ε : Ef} {W : Wd} {p : Addr} {o : HO} (hS : p ∉ ε.S) (i : ε.I W) (h : W.H p = some o) (n : W.B p = none) : ε.I (W.fix p o h) :=
  ε.mv W _ (ex_fix h n) (fun a h1 _ => ⟨rfl, upd_ne fun e => hS (e ▸ h1)⟩) i


/-! ### expressions -/
/-- a value of which P is known -/
def EvP (ε : Ef) (te : TE) (σ : SS) (W : Wd) (P : V → Wd → Prop) : Prop := ∀ W1, Stp ε W W1 → ∀ Q : VK, (∀ v W2, Stp ε W1 W2 → P v W2 → Q v W2.H) → te σ W1.H Q
def EvR {α : Type} [Py α] (ε : Ef) (K : Fg) (te : TE) (σ : SS) (W : Wd) (x : α) : Prop :=
  ∀ W1, Stp ε W W1 → ∀ Q : VK, (∀ v W2, Stp ε W1 W2 → rep K W2.B v x → Q v W2.H) → te σ W1.H Q
/-- a dict that is not locked -/
def EvD {κ α : Type} [PyKey κ] [Py α] (ε : Ef) (K : Fg) (te : TE) (σ : SS) (W : Wd) (d : Dict κ α) : Prop :=
  ∀ W1, Stp ε W W1 → ∀ Q : VK, (∀ v W2, Stp ε W1 W2 → DictAt K W2 v d → Q v W2.H) → te σ W1.H Q
def EvT (ε : Ef) (tt : TT) (σ : SS) (W : Wd) (b : Bool) : Prop :=
  ∀ W1, Stp ε W W1 → ∀ Q : Bool → Hp → Prop, (∀ W2, Stp ε W1 W2 → Q b W2.H) → tt σ W1.H Q
def EvAs {α : Type} [Py α] (ε : Ef) (K : Fg) (ta : TA) (σ : SS) (W : Wd) (xs : List α) : Prop :=
  ∀ W1, Stp ε W W1 → ∀ Q : List V → Hp → Prop, (∀ vs W2, Stp ε W1 W2 → Reps K W2.B vs xs → Q vs W2.H) → ta σ W1.H Q
def EvO (ε : Ef) (to : TO) (σ : SS) (W : Wd) (o : Option Int) : Prop := ∀ W1, Stp ε W W1 → ∀ Q : Option Int → Hp → Prop, (∀ W2, Stp ε W1 W2 → Q o W2.H) → to σ W1.H Q
/-- an operation on values, at any later world -/
def RO {α β γ : Type} [Py α] [Py β] [Py γ] (K : Fg) (r : R2) (x : α) (y : β) (z : γ) : Prop :=
  ∀ v u W1, rep K W1.B v x → rep K W1.B u y → ∀ Q : VK, (∀ w W2, Grow W1 W2 → rep K W2.B w z → Q w W2.H) → r v u W1.H Q
def RU {α β : Type} [Py α] [Py β] (K : Fg) (r : V → Hp → VK → Prop) (x : α) (y : β) : Prop :=
  ∀ v W1, rep K W1.B v x → ∀ Q : VK, (∀ w W2, Grow W1 W2 → rep K W2.B w y → Q w W2.H) → r v W1.H Q
def RC1 {α β : Type} [Py α] [Py β] (K : Fg) (r : List V → Hp → VK → Prop) (x : α) (y : β) : Prop :=
  ∀ v W1, rep K W1.B v x → ∀ Q : VK, (∀ w W2, Grow W1 W2 → rep K W2.B w y → Q w W2.H) → r [v] W1.H Q
def RC2 {α β γ : Type} [Py α] [Py β] [Py γ] (K : Fg) (r : List V → Hp → VK → Prop) (x : α) (y : β) (z : γ) : Prop :=
  ∀ v u W1, rep K W1.B v x → rep K W1.B u y → ∀ Q : VK, (∀ w W2, Grow W1 W2 → rep K W2.B w z → Q w W2.H) → r [v, u] W1.H Q
section
variable {α β γ : Type} [Py α] [Py β] [Py γ] {K : Fg} {σ : SS} {W W' : Wd} {v : V} {x : α} {y : β} {z : γ} {ta tb te : TE} {r : R2} {t u : TT} {ε : Ef}
theorem EvR.p (h : EvR ε K te σ W x) : EvP ε te σ W (fun v W => rep K W.B v x) := h
theorem EvP.toR (h : EvP ε te σ W (fun v W => rep K W.B v x)) : EvR ε K te σ W x := h
theorem EvR.s (g : Stp ε W W') (h : EvR ε K te σ W x) : EvR ε K te σ W' x := fun W1 g1 => h W1 (g.trans g1)
theorem EvT.s {b : Bool} (g : Stp ε W W') (h : EvT ε t σ W b) : EvT ε t σ W' b := fun W1 g1 => h W1 (g.trans g1)
theorem EvR.is {x' : α} (h : EvR ε K te σ W x) (e : x = x') : EvR ε K te σ W x' := e ▸ h
theorem EvT.is {b b' : Bool} (h : EvT ε t σ W b) (e : b = b') : EvT ε t σ W b' := e ▸ h
theorem EvD.rep {κ : Type} [PyKey κ] {d : Dict κ α} (h : EvD ε K te σ W d) : EvR ε K te σ W d := fun W1 g1 Q k => h W1 g1 Q fun v W2 g2 r => k v W2 g2 r.rep
/-- what leaves the heap as it is, whatever the effect around -/
theorem ev_pure (h : ∀ W1, On W W1 → EvR pur K te σ W1 x) : EvR ε K te σ W x := fun W1 g1 Q k => h W1 g1.on W1 (.start trivial) Q fun v W2 g2 r => k v W2 (g1.rf.and g2.pure) r
theorem ev_pureD {κ : Type} [PyKey κ] {d : Dict κ α} (h : ∀ W1, On W W1 → EvD pur K te σ W1 d) : EvD ε K te σ W d := fun W1 g1 Q k => h W1 g1.on W1 (.start trivial) Q fun v W2 g2 r => k v W2 (g1.rf.and g2.pure) r
theorem et_pure {b : Bool} (h : ∀ W1, On W W1 → EvT pur t σ W1 b) : EvT ε t σ W b := fun W1 g1 Q k => h W1 g1.on W1 (.start trivial) Q fun W2 g2 => k W2 (g1.rf.and g2.pure)
theorem ev_var {i : Nat} (h : σ[i]? = some (some v)) (r : rep K W.B v x) : EvR ε K (tVar i) σ W x := fun W1 g1 Q k => ⟨v, h, k v W1 g1.rf (rep_s g1 r)⟩
theorem ev_dvar {κ : Type} [PyKey κ] {d : Dict κ α} {i : Nat} (h : σ[i]? = some (some v)) (r : DictAt K W v d) : EvD ε K (tVar i) σ W d := fun W1 g1 Q k => ⟨v, h, k v W1 g1.rf (r.s g1)⟩
theorem ev_int {n : Int} : EvR ε K (tC (.int n)) σ W n := fun W1 g1 Q k => k _ W1 g1.rf rfl
theorem ev_bl {n : Bool} : EvR ε K (tC (.bl n)) σ W n := fun W1 g1 Q k => k _ W1 g1.rf rfl
theorem ev_str {n : Str} : EvR ε K (tC (.str n)) σ W n := fun W1 g1 Q k => k _ W1 g1.rf rfl
theorem ev_non : EvR ε K (tC .non) σ W () := fun W1 g1 Q k => k _ W1 g1.rf rfl
theorem ev_raw {n : V} : EvR ε K (tC n) σ W (Raw.mk n) := fun W1 g1 Q k => k _ W1 g1.rf rfl
theorem ev_rvar {i : Nat} (h : σ[i]? = some (some v)) : EvR ε K (tVar i) σ W (Raw.mk v) := fun W1 g1 Q k => ⟨v, h, k v W1 g1.rf rfl⟩
theorem ev_op (ha : EvR ε K ta σ W x) (hb : EvR ε K tb σ W y) (hr : RO K r x y z) : EvR ε K (tOp r ta tb) σ W z := fun W1 g1 Q k =>
  ha W1 g1 _ fun a W2 g2 ra => hb W2 (g1.trans g2) _ fun b W3 g3 rb => hr a b W3 (rep_s g3 ra) rb Q fun w W4 g4 rw' => k w W4 ((g2.trans g3).and g4) rw'
theorem ev_un {r : V → Hp → VK → Prop} (ha : EvR ε K ta σ W x) (hr : RU K r x y) : EvR ε K (tUn r ta) σ W y := fun W1 g1 Q k =>
  ha W1 g1 _ fun a W2 g2 ra => hr a W2 ra Q fun w W4 g4 rw' => k w W4 (g2.and g4) rw'
theorem ev_cb1 {r : List V → Hp → VK → Prop} (ha : EvR ε K ta σ W x) (hr : RC1 K r x y) : EvR ε K (tCB r (tCons ta tNil)) σ W y := fun W1 g1 Q k =>
  ha W1 g1 _ fun a W2 g2 ra => hr a W2 ra Q fun w W4 g4 rw' => k w W4 (g2.and g4) rw'
theorem ev_cb2 {r : List V → Hp → VK → Prop} (ha : EvR ε K ta σ W x) (hb : EvR ε K tb σ W y) (hr : RC2 K r x y z) : EvR ε K (tCB r (tCons ta (tCons tb tNil))) σ W z := fun W1 g1 Q k =>
  ha W1 g1 _ fun a W2 g2 ra => hb W2 (g1.trans g2) _ fun b W3 g3 rb => hr a b W3 (rep_s g3 ra) rb Q fun w W4 g4 rw' => k w W4 ((g2.trans g3).and g4) rw'
/-- a value that leaves the heap as it is -/
theorem ro_val (f : ∀ (v u : V) (W1 : Wd), rep K W1.B v x → rep K W1.B u y → ∀ Q : VK, (∀ w, rep K W1.B w z → Q w W1.H) → r v u W1.H Q) : RO K r x y z :=
  fun v u W1 rv ru Q k => f v u W1 rv ru Q fun w rw' => k w W1 (.refl _ _) rw'
theorem ro_I0 {g : Int → Int → Int} {i j : Int} : RO K (rI0 fun i j => .int (g i j)) i j (g i j) := ro_val fun _ _ _ rv ru Q k => ⟨i, j, rv, ru, k _ rfl⟩
theorem ro_B0 {g : Int → Int → Bool} {i j : Int} : RO K (rI0 fun i j => .bl (g i j)) i j (g i j) := ro_val fun _ _ _ rv ru Q k => ⟨i, j, rv, ru, k _ rfl⟩
theorem ro_I {C : Int → Int → Prop} {g : Int → Int → Int} {i j : Int} (hc : C i j) : RO K (rI C fun i j => .int (g i j)) i j (g i j) := ro_val fun _ _ _ rv ru Q k => ⟨i, j, rv, ru, hc, k _ rfl⟩
theorem ru_neg {i : Int} : RU K (rU fun i => .int (-i)) i (-i) := fun v W1 rv Q k => ⟨i, rv, k _ W1 (.refl _ _) rfl⟩
theorem ro_eqI {i j : Int} : RO K rEq i j (decide (i = j)) := ro_val fun v u _ rv ru Q k => by
  have e1 : v = .int i := rv
  have e2 : u = .int j := ru
  subst e1; subst e2
  refine ⟨rfl, k _ ?_⟩
  show V.bl _ = V.bl _
  congr 1
  simp
theorem ro_neI {i j : Int} : RO K rNe i j (!decide (i = j)) := ro_val fun v u _ rv ru Q k => by
  have e1 : v = .int i := rv
  have e2 : u = .int j := ru
  subst e1; subst e2
  refine ⟨rfl, k _ ?_⟩
  show V.bl _ = V.bl _
  congr 1
  simp
theorem ro_eqS {i j : Str} : RO K rEq i j (decide (i = j)) := ro_val fun v u _ rv ru Q k => by
  have e1 : v = .str i := rv
  have e2 : u = .str j := ru
  subst e1; subst e2
  refine ⟨rfl, k _ ?_⟩
  show V.bl _ = V.bl _
  congr 1
  simp
theorem ro_neS {i j : Str} : RO K rNe i j (!decide (i = j)) := ro_val fun v u _ rv ru Q k => by
  have e1 : v = .str i := rv
  have e2 : u = .str j := ru
  subst e1; subst e2
  refine ⟨rfl, k _ ?_⟩
  show V.bl _ = V.bl _
  congr 1
  simp
theorem ro_eqB {i j : Bool} : RO K rEq i j (decide (i = j)) := ro_val fun v u _ rv ru Q k => by
  have e1 : v = .bl i := rv
  have e2 : u = .bl j := ru
  subst e1; subst e2
  refine ⟨rfl, k _ ?_⟩
  show V.bl _ = V.bl _
  congr 1
  simp
theorem ro_neB {i j : Bool} : RO K rNe i j (!decide (i = j)) := ro_val fun v u _ rv ru Q k => by
  have e1 : v = .bl i := rv
  have e2 : u = .bl j := ru
  subst e1; subst e2
  refine ⟨rfl, k _ ?_⟩
  show V.bl _ = V.bl _
  congr 1
  simp
/-! places -/
theorem atI_ix {ζ : Type} {xs : List ζ} {i : Int} {v : ζ} (h : atI xs i = some v) : ∃ j, ixN xs.length i = some j ∧ xs[j]? = some v := by
  unfold atI at h
  cases e : ixN xs.length i with
  | none => rw [e] at h; cases h
  | some j => rw [e] at h; exact ⟨j, rfl, h⟩
theorem reps_at {vs : List V} {xs : List α} {H : Hp} {i : Int} (h : Reps K H vs xs) (e : atI xs i = some x) : ∃ v, atI vs i = some v ∧ rep K H v x := by
  obtain ⟨j, e1, e2⟩ := atI_ix e
  obtain ⟨v, h1, h2⟩ := Reps.get' h e2
  refine ⟨v, ?_, h2⟩
  unfold atI
  rw [Reps.len h, e1]
  exact h1
theorem ro_ixL {xs : List α} {i : Int} (h : atI xs i = some x) : RO K (rIxL K) xs i x := ro_val fun v u W1 rv ru Q k => by
  obtain ⟨a, vs, e1, s, r⟩ := rv
  have e2 : u = .int i := ru
  subst e1; subst e2
  obtain ⟨w, h1, h2⟩ := reps_at r h
  exact ⟨a, vs, i, w, rfl, rfl, SqL.of (W1.sub.el s), h1, k w h2⟩
theorem ro_ixT {xs : Tup α} {i : Int} (h : atI xs.items i = some x) : RO K (rIxT K) xs i x := ro_val fun v u W1 rv ru Q k => by
  obtain ⟨a, vs, e1, s, r⟩ := rv
  have e2 : u = .int i := ru
  subst e1; subst e2
  obtain ⟨w, h1, h2⟩ := reps_at r h
  exact ⟨a, vs, i, w, rfl, rfl, SqT.of (W1.sub.et s), h1, k w h2⟩
theorem ro_ixP0 {p : α × β} : RO K (rIxT K) p (0 : Int) p.1 := ro_val fun v u W1 rv ru Q k => by
  obtain ⟨a, x, y, e1, s, r1, r2⟩ := rv
  have e2 : u = .int 0 := ru
  subst e1; subst e2
  exact ⟨a, _, 0, x, rfl, rfl, SqT.of (W1.sub.et s), rfl, k x r1⟩
theorem ro_ixP1 {p : α × β} : RO K (rIxT K) p (1 : Int) p.2 := ro_val fun v u W1 rv ru Q k => by
  obtain ⟨a, x, y, e1, s, r1, r2⟩ := rv
  have e2 : u = .int 1 := ru
  subst e1; subst e2
  exact ⟨a, _, 1, y, rfl, rfl, SqT.of (W1.sub.et s), rfl, k y r2⟩
theorem ro_eqT [DecidableEq α] [Datum α] [PyD α] {x y : α} (hd : Datum.depth α ≤ 60) : RO K (rEqT K false) x y (decide (x = y)) := ro_val fun v u W1 rv ru Q k => ⟨α, _, _, x, y, PyD.dp (rep_h rv), PyD.dp (rep_h ru), hd, k _ rfl⟩
theorem ro_neT [DecidableEq α] [Datum α] [PyD α] {x y : α} (hd : Datum.depth α ≤ 60) : RO K (rEqT K true) x y (!decide (x = y)) := ro_val fun v u W1 rv ru Q k => ⟨α, _, _, x, y, PyD.dp (rep_h rv), PyD.dp (rep_h ru), hd, k _ rfl⟩
theorem ro_ltT [DecidableEq α] [DatumOrd α] [PyD α] {x y : α} (hd : Datum.depth α ≤ 60) : RO K (rLtT K) x y (DatumOrd.lt x y) := ro_val fun v u W1 rv ru Q k => ⟨α, _, _, x, y, PyD.dp (rep_h rv), PyD.dp (rep_h ru), hd, k _ rfl⟩
theorem ro_inL [DecidableEq α] [Datum α] [PyD α] {x : α} {y : List α} (hd : Datum.depth α ≤ 60) : RO K (rInTL K false) x y (decide (x ∈ y)) := ro_val fun v u W1 rv ru Q k => ⟨α, _, _, x, y, PyD.dp (rep_h rv), PyD.dp (rep_h ru), hd, k _ rfl⟩
theorem ro_ninL [DecidableEq α] [Datum α] [PyD α] {x : α} {y : List α} (hd : Datum.depth α ≤ 60) : RO K (rInTL K true) x y (!decide (x ∈ y)) := ro_val fun v u W1 rv ru Q k => ⟨α, _, _, x, y, PyD.dp (rep_h rv), PyD.dp (rep_h ru), hd, k _ rfl⟩
theorem ro_inT [DecidableEq α] [Datum α] [PyD α] {x : α} {y : Tup α} (hd : Datum.depth α ≤ 60) : RO K (rInTT K false) x y (decide (x ∈ y.items)) := ro_val fun v u W1 rv ru Q k => ⟨α, _, _, x, y, PyD.dp (rep_h rv), PyD.dp (rep_h ru), hd, k _ rfl⟩
theorem ro_ninT [DecidableEq α] [Datum α] [PyD α] {x : α} {y : Tup α} (hd : Datum.depth α ≤ 60) : RO K (rInTT K true) x y (!decide (x ∈ y.items)) := ro_val fun v u W1 rv ru Q k => ⟨α, _, _, x, y, PyD.dp (rep_h rv), PyD.dp (rep_h ru), hd, k _ rfl⟩
/-- a new list that may change -/
def EvN (ε : Ef) (K : Fg) (te : TE) (σ : SS) (W : Wd) (xs : List α) : Prop :=
  ∀ W1, Stp ε W W1 → ∀ Q : VK, (∀ p vs W2, Stp ε W1 W2 → W1.H p = none → W2.B p = none → W2.H p = some (.lst vs) → Reps K W2.B vs xs → Q (.ref p) W2.H) → te σ W1.H Q
theorem Stp.fix {W W' : Wd} (g : Stp ε W W') {p : Addr} {o : HO} (f : W.H p = none) (i : ε.I W) (h : W'.H p = some o) (n : W'.B p = none) : Stp ε W (W'.fix p o h) :=
  ⟨md_fix g.md h n f, i_fix (Ef.off i f) g.i h n⟩
theorem EvN.toR {xs : List α} (h : EvN ε K te σ W xs) : EvR ε K te σ W xs := fun W1 g1 Q k => h W1 g1 Q fun p vs W2 g2 f n e r =>
  k _ (W2.fix p _ e) (g2.fix f g1.i e n) ⟨p, vs, rfl, upd_same, Reps.mono (exExt (ex_fix e n)) r⟩
/-! displays -/
theorem ea_nil : EvAs ε K tNil σ W ([] : List α) := fun W1 g1 Q k => k [] W1 g1.rf .nil
theorem ea_cons {tr : TA} {xs : List α} (h : EvR ε K ta σ W x) (hr : EvAs ε K tr σ W xs) : EvAs ε K (tCons ta tr) σ W (x :: xs) := fun W1 g1 Q k =>
  h W1 g1 _ fun a W2 g2 ra => hr W2 (g1.trans g2) _ fun vs W3 g3 rs => k (a :: vs) W3 (g2.trans g3) (.cons (rep_s g3 ra) rs)
theorem ev_lst {ta : TA} {xs : List α} (h : EvAs ε K ta σ W xs) (hl : xs.length ≤ 100000) : EvR ε K (tLst ta) σ W xs := fun W1 g1 Q k =>
  h W1 g1 _ fun vs W2 g2 rs => ⟨Evl.sz_of (by rw [Reps.len rs]; exact hl), fun p hp => k _ (W2.add p (.lst vs)) (g2.and (W2.grow_add hp)) ⟨p, vs, rfl, upd_same, Reps.mono (exExt (W2.grow_add hp).b) rs⟩⟩
theorem en_lst {ta : TA} {xs : List α} (h : EvAs ε K ta σ W xs) (hl : xs.length ≤ 100000) : EvN ε K (tLst ta) σ W xs := fun W1 g1 Q k =>
  h W1 g1 _ fun vs W2 g2 rs => ⟨Evl.sz_of (by rw [Reps.len rs]; exact hl), fun p hp => k p vs (W2.put p (.lst vs) (W2.free hp)) (g2.and (W2.grow_put hp)) (by
    cases e : W1.H p with
    | none => rfl
    | some o => exact absurd hp (g2.md.d p (by rw [e]; exact fun z => by cases z))) (W2.free hp) upd_same rs⟩
theorem ev_tupN {ta : TA} {xs : List α} (h : EvAs ε K ta σ W xs) (hl : xs.length ≤ 100000) : EvR ε K (tTup ta) σ W (Tup.mk xs) := fun W1 g1 Q k =>
  h W1 g1 _ fun vs W2 g2 rs => ⟨Evl.sz_of (by rw [Reps.len rs]; exact hl), fun p hp => k _ (W2.add p (.tup vs)) (g2.and (W2.grow_add hp)) ⟨p, vs, rfl, upd_same, Reps.mono (exExt (W2.grow_add hp).b) rs⟩⟩
theorem ev_pair (ha : EvR ε K ta σ W x) (hb : EvR ε K tb σ W y) : EvR ε K (tTup (tCons ta (tCons tb tNil))) σ W (x, y) := fun W1 g1 Q k =>
  ha W1 g1 _ fun a W2 g2 ra => hb W2 (g1.trans g2) _ fun b W3 g3 rb => ⟨Evl.sz_of (by show 2 ≤ 100000; decide), fun p hp =>
    k _ (W3.add p (.tup [a, b])) ((g2.trans g3).and (W3.grow_add hp)) ⟨p, a, b, rfl, upd_same, rep_g (W3.grow_add hp) (rep_s g3 ra), rep_g (W3.grow_add hp) rb⟩⟩
theorem ev_t3 {tc : TE} (ha : EvR ε K ta σ W x) (hb : EvR ε K tb σ W y) (hc : EvR ε K tc σ W z) : EvR ε K (tTup (tCons ta (tCons tb (tCons tc tNil)))) σ W (T3.mk x y z) := fun W1 g1 Q k =>
  ha W1 g1 _ fun a W2 g2 ra => hb W2 (g1.trans g2) _ fun b W3 g3 rb => hc W3 ((g1.trans g2).trans g3) _ fun c W4 g4 rc => ⟨Evl.sz_of (by show 3 ≤ 100000; decide), fun p hp =>
    k _ (W4.add p (.tup [a, b, c])) (((g2.trans g3).trans g4).and (W4.grow_add hp)) ⟨p, a, b, c, rfl, upd_same, rep_g (W4.grow_add hp) (rep_s g4 (rep_s g3 ra)), rep_g (W4.grow_add hp) (rep_s g4 rb), rep_g (W4.grow_add hp) rc⟩⟩
/-! tests -/
theorem et_test {b : Bool} (h : EvR ε K te σ W b) : EvT ε (tTest te) σ W b := fun W1 g1 Q k => h W1 g1 _ fun v W2 g2 r => ⟨b, r, k W2 g2⟩
theorem et_B {b : Bool} (h : EvR ε K te σ W b) : EvT ε (tB te) σ W b := fun W1 g1 Q k => h W1 g1 _ fun v W2 g2 r => ⟨b, r, k W2 g2⟩
theorem et_and {a b : Bool} (h1 : EvT ε t σ W a) (h2 : a = true → EvT ε u σ W b) : EvT ε (tAnd t u) σ W (a && b) := fun W1 g1 Q k => h1 W1 g1 _ fun W2 g2 => by
  cases a with
  | false => exact k W2 g2
  | true => exact h2 rfl W2 (g1.trans g2) _ fun W3 g3 => k W3 (g2.trans g3)
theorem et_or {a b : Bool} (h1 : EvT ε t σ W a) (h2 : a = false → EvT ε u σ W b) : EvT ε (tOr t u) σ W (a || b) := fun W1 g1 Q k => h1 W1 g1 _ fun W2 g2 => by
  cases a with
  | true => exact k W2 g2
  | false => exact h2 rfl W2 (g1.trans g2) _ fun W3 g3 => k W3 (g2.trans g3)
theorem et_not {a : Bool} (h1 : EvT ε t σ W a) : EvT ε (tNot t) σ W (!a) := fun W1 g1 Q k => h1 W1 g1 _ fun W2 g2 => k W2 g2
theorem ev_andV {a b : Bool} (h1 : EvR ε K ta σ W a) (h2 : a = true → EvR ε K tb σ W b) : EvR ε K (tAndV ta tb) σ W (a && b) := fun W1 g1 Q k => h1 W1 g1 _ fun v W2 g2 r => ⟨a, r, by
  cases a with
  | false => exact k _ W2 g2 rfl
  | true => exact h2 rfl W2 (g1.trans g2) _ fun v W3 g3 r => k v W3 (g2.trans g3) r⟩
theorem ev_orV {a b : Bool} (h1 : EvR ε K ta σ W a) (h2 : a = false → EvR ε K tb σ W b) : EvR ε K (tOrV ta tb) σ W (a || b) := fun W1 g1 Q k => h1 W1 g1 _ fun v W2 g2 r => ⟨a, r, by
  cases a with
  | true => exact k _ W2 g2 rfl
  | false => exact h2 rfl W2 (g1.trans g2) _ fun v W3 g3 r => k v W3 (g2.trans g3) r⟩
theorem ev_notV {a : Bool} (h1 : EvR ε K ta σ W a) : EvR ε K (tNotV ta) σ W (!a) := fun W1 g1 Q k => h1 W1 g1 _ fun v W2 g2 r => ⟨a, r, k _ W2 g2 rfl⟩
theorem ev_if {b : Bool} {x' : α} (h : EvT ε t σ W b) (h1 : b = true → EvR ε K ta σ W x) (h2 : b = false → EvR ε K tb σ W x') : EvR ε K (tIf t ta tb) σ W (if b then x else x') := fun W1 g1 Q k => h W1 g1 _ fun W2 g2 => by
  cases b with
  | true => exact h1 rfl W2 (g1.trans g2) _ fun v W3 g3 r => k v W3 (g2.trans g3) r
  | false => exact h2 rfl W2 (g1.trans g2) _ fun v W3 g3 r => k v W3 (g2.trans g3) r
/-! calls of built-ins -/
def rMin2 : List V → Hp → VK → Prop := fun xs H Q => ∃ i j, xs = [.int i, .int j] ∧ Q (.int (if j < i then j else i)) H
def rMax2 : List V → Hp → VK → Prop := fun xs H Q => ∃ i j, xs = [.int i, .int j] ∧ Q (.int (if j > i then j else i)) H
def rAbs : List V → Hp → VK → Prop := fun xs H Q => ∃ i, xs = [.int i] ∧ Q (.int (if i < 0 then -i else i)) H
def rLen (K : Fg) : List V → Hp → VK → Prop := fun xs H Q => ∃ p ys, xs = [.ref p] ∧ (SqL K H p ys ∨ SqT K H p ys) ∧ Q (.int ys.length) H
def rLenS : List V → Hp → VK → Prop := fun xs H Q => ∃ z, xs = [.str z] ∧ z.length ≤ sizeLine ∧ Q (.int z.length) H
def rListO (K : Fg) : List V → Hp → VK → Prop := fun xs H Q => ∃ p ys, xs = [.ref p] ∧ (SqL K H p ys ∨ SqT K H p ys) ∧ ∀ l, H l = none → Q (.ref l) (upd H l (.lst ys))
def rDictC : List V → Hp → VK → Prop := fun xs H Q => ∃ a kvs, xs = [.ref a] ∧ Rd H a (.dK kvs) ∧ ∀ p, H p = none → Q (.ref p) (upd H p (.dK kvs))
section
variable {X : Cx}
theorem cr_min2 (hc : X.calm = true) : CallR X (.builtin "min") rMin2 := call_min2 hc
theorem cr_max2 (hc : X.calm = true) : CallR X (.builtin "max") rMax2 := call_max2 hc
theorem cr_abs : CallR X (.builtin "abs") rAbs := call_abs
theorem cr_len : CallR X (.builtin "len") (rLen X.K) := call_len_seq
theorem cr_lenS : CallR X (.builtin "len") rLenS := call_len_str
theorem cr_listO : CallR X (.type "list") (rListO X.K) := call_list_of
theorem cr_dictC : CallR X (.type "dict") rDictC := by
  intro pins s σ H xs us Q I r h
  obtain ⟨a, kvs, rfl, rd, k⟩ := h
  cases r with
  | cons r rr =>
    cases rr
    cases r
    exact d_copyOf I rd fun p s' hp I' => ⟨.ref p, _, I', rfl, k p hp⟩
end
theorem rc_min2 {i j : Int} : RC2 K rMin2 i j (if j < i then j else i) := fun v u W1 rv ru Q k => ⟨i, j, by rw [show v = _ from rv, show u = _ from ru], k _ W1 (.refl _ _) rfl⟩
theorem rc_max2 {i j : Int} : RC2 K rMax2 i j (if j > i then j else i) := fun v u W1 rv ru Q k => ⟨i, j, by rw [show v = _ from rv, show u = _ from ru], k _ W1 (.refl _ _) rfl⟩
theorem rc_abs {i : Int} : RC1 K rAbs i (if i < 0 then -i else i) := fun v W1 rv Q k => ⟨i, by rw [show v = _ from rv], k _ W1 (.refl _ _) rfl⟩
theorem rc_len {xs : List α} : RC1 K (rLen K) xs (xs.length : Int) := fun v W1 ⟨a, vs, e, s, r⟩ Q k => ⟨a, vs, by rw [e], .inl (SqL.of (W1.sub.el s)), by
  rw [Reps.len r]; exact k _ W1 (.refl _ _) rfl⟩
theorem rc_lenT {xs : Tup α} : RC1 K (rLen K) xs (xs.items.length : Int) := fun v W1 ⟨a, vs, e, s, r⟩ Q k => ⟨a, vs, by rw [e], .inr (SqT.of (W1.sub.et s)), by
  rw [Reps.len r]; exact k _ W1 (.refl _ _) rfl⟩
theorem rc_lenS {x : Str} (h : x.length ≤ 100000) : RC1 K rLenS x (x.length : Int) := fun v W1 e Q k => ⟨x, by rw [show v = _ from e], Evl.sz_of h, k _ W1 (.refl _ _) rfl⟩
theorem rc_list {xs : List α} : RC1 K (rListO K) xs xs := fun v W1 ⟨a, vs, e, s, r⟩ Q k => ⟨a, vs, by rw [e], .inl (SqL.of (W1.sub.el s)), fun l hl =>
  k _ (W1.add l (.lst vs)) (W1.grow_add hl) ⟨l, vs, rfl, upd_same, Reps.mono (exExt (W1.grow_add hl).b) r⟩⟩
theorem rc_listT {xs : Tup α} : RC1 K (rListO K) xs xs.items := fun v W1 ⟨a, vs, e, s, r⟩ Q k => ⟨a, vs, by rw [e], .inr (SqT.of (W1.sub.et s)), fun l hl =>
  k _ (W1.add l (.lst vs)) (W1.grow_add hl) ⟨l, vs, rfl, upd_same, Reps.mono (exExt (W1.grow_add hl).b) r⟩⟩
theorem rc_sum {xs : List Int} : RC1 K (rSum K) xs xs.sum := fun v W1 ⟨a, vs, e, s, r⟩ Q k => ⟨a, xs, by rw [e], by rw [← reps_int r]; exact SqL.of (W1.sub.el s), k _ W1 (.refl _ _) rfl⟩
/-- sorted: whatever stands in order with the same items -/
theorem rc_sortedI {xs ys : List Int} (hp : ys.Perm xs) (ho : ys.Pairwise (· ≤ ·)) : RC1 K (rSortedI K) xs ys := fun v W1 ⟨a, vs, e, s, r⟩ Q k => ⟨a, xs, by rw [e], by rw [← reps_int r]; exact SqL.of (W1.sub.el s), fun ns' p h1 h2 hp0 => by
  have e2 : ns' = ys := (h1.trans hp.symm).eq_of_pairwise (fun a b _ _ h h' => Int.le_antisymm h h') h2 ho
  subst e2
  exact k _ (W1.add p _) (W1.grow_add hp0) ⟨p, _, rfl, upd_same, int_reps _⟩⟩
theorem rc_all {xs : List Bool} : RC1 K (rAll K) xs (xs.all id) := fun v W1 ⟨a, vs, e, s, r⟩ Q k => ⟨a, xs, by rw [e], by rw [← reps_bl r]; exact SqL.of (W1.sub.el s), k _ W1 (.refl _ _) rfl⟩
theorem rc_any {xs : List Bool} : RC1 K (rAny K) xs (xs.any id) := fun v W1 ⟨a, vs, e, s, r⟩ Q k => ⟨a, xs, by rw [e], by rw [← reps_bl r]; exact SqL.of (W1.sub.el s), k _ W1 (.refl _ _) rfl⟩
/-- isinstance of one built-in class -/
theorem rc_isi {c a : String} {b : Bool} (ht : ∀ (W1 : Wd) v, rep K W1.B v x → TyX K W1.H v (.type a)) (hk : kitB a c = some b) : RC2 K (rIsi K) x (Raw.mk (.ty c)) b := fun v u W1 rv ru Q k =>
  ⟨v, u, .type a, .type c, b, by rw [show u = _ from ru], by rw [show u = _ from ru]; exact .ty c, ht W1 v rv, kit_ty hk, k _ W1 (.refl _ _) rfl⟩
theorem ty_int {i : Int} (W1 : Wd) (v : V) (h : rep K W1.B v i) : TyX K W1.H v (.type "int") := by rw [show v = _ from h]; exact .base (.int i)
theorem ty_str {i : Str} (W1 : Wd) (v : V) (h : rep K W1.B v i) : TyX K W1.H v (.type "str") := by rw [show v = _ from h]; exact .base (.str i)
theorem ty_bl {i : Bool} (W1 : Wd) (v : V) (h : rep K W1.B v i) : TyX K W1.H v (.type "bool") := by rw [show v = _ from h]; exact .base (.bl i)
theorem ty_non (W1 : Wd) (v : V) (h : rep K W1.B v ()) : TyX K W1.H v (.type "NoneType") := by rw [show v = _ from h]; exact .base .non
/-- {} -/
theorem ed_new {κ : Type} [PyKey κ] : EvD ε K tDNewK σ W (⟨[]⟩ : Dict κ α) := fun W1 g1 Q k p hp => k _ (W1.add p (.dK [])) (g1.rf.and (W1.grow_add hp)) ⟨p, [], rfl, upd_same, upd_same, .nil⟩
/-- dict(d) -/
theorem ed_copy {κ : Type} [PyKey κ] {d : Dict κ α} (h : EvR ε K te σ W d) : EvD ε K (tCB rDictC (tCons te tNil)) σ W d := fun W1 g1 Q k => h W1 g1 _ fun v W2 g2 ⟨a, ks, e, rd, r⟩ =>
  ⟨a, ks, by rw [e], W2.sub.rd rd, fun p hp => k _ (W2.add p (.dK ks)) (g2.and (W2.grow_add hp)) ⟨p, ks, rfl, upd_same, upd_same, KReps.mono (exExt (W2.grow_add hp).b) r⟩⟩
/-- list(d.items()) of an unlocked dict -/
theorem ev_listItems {κ : Type} [PyKV κ] {d : Dict κ α} (h : EvD ε K te σ W d) : EvR ε K (LiI.tListItems te) σ W d.kv := fun W1 g1 Q k => h W1 g1 _ fun v W2 g2 ⟨a, ks, e, hB, hH, r⟩ => by
  refine ⟨a, ks, e, hH, fun H' p ts hx hp hts hpt hl hpr => ?_⟩
  -- the new world
  let B' : Hp := fun b => match W2.B b with
    | some o => some o
    | none => if b = p then H' p else if b ∈ ts then H' b else none
  have hB' : ∀ b o, W2.B b = some o → B' b = some o := fun b o q => by show (match W2.B b with | some o => some o | none => _) = some o; rw [q]
  have hnew : ∀ b, W2.H b = none → B' b = (if b = p then H' p else if b ∈ ts then H' b else none) := fun b q => by
    show (match W2.B b with | some o => some o | none => _) = _
    rw [W2.free q]
  have sub : Ext B' H' := fun b o q => by
    cases e2 : W2.B b with
    | some o' =>
      have : B' b = some o' := hB' b o' e2
      rw [this] at q; cases q
      rcases W2.sub b o e2 with h1 | ⟨h0, ob, h1⟩
      · exact .inl (hx b o h1)
      · exact .inr ⟨h0, ob, hx b _ h1⟩
    | none =>
      have : B' b = (if b = p then H' p else if b ∈ ts then H' b else none) := by
        show (match W2.B b with | some o => some o | none => _) = _
        rw [e2]
      rw [this] at q
      by_cases z : b = p
      · rw [if_pos z] at q; rw [z]; exact .inl q
      · rw [if_neg z] at q
        by_cases z2 : b ∈ ts
        · rw [if_pos z2] at q; exact .inl q
        · rw [if_neg z2] at q; cases q
  let W3 : Wd := ⟨B', H', sub⟩
  have gr : Grow W2 W3 := .mk hB' hx fun b hb => by
    show B' b = W2.B b
    cases e2 : W2.B b with
    | some o' => exact hB' b o' e2
    | none =>
      have : B' b = (if b = p then H' p else if b ∈ ts then H' b else none) := by
        show (match W2.B b with | some o => some o | none => _) = _
        rw [e2]
      rw [this, if_neg (fun z => hb.ne (by rw [z]; exact hp)), if_neg (fun z => hb.ne (hts b z))]
  refine k _ W3 (g2.and gr) ⟨p, ts.map V.ref, rfl, by show B' p = _; rw [hnew p hp, if_pos rfl]; exact hl, ?_⟩
  have r3 : KReps K W3.B ks d.kv := KReps.mono (exExt gr.b) r
  clear k
  have hts' : ∀ t ∈ ts, B' t = H' t := fun t ht => by
    rw [hnew t (hts t ht), if_neg (fun z => hpt (by rw [← z]; exact ht)), if_pos ht]
  have main : ∀ (ts : List Addr) (ks : List (Key × V)) (kv : List (κ × α)), (∀ t ∈ ts, B' t = H' t) → Paired (fun (t : Addr) (q : Key × V) => H' t = some (.tup [kV q.1, q.2])) ts ks → KReps K B' ks kv → Reps K B' (ts.map V.ref) kv := by
    intro ts
    induction ts with
    | nil => intro ks kv _ a b; cases a; cases b; exact .nil
    | cons t ts ih =>
      intro ks kv h a b
      cases a with
      | cons a1 a2 =>
        cases b with
        | cons b1 b2 =>
          refine .cons ⟨t, _, _, rfl, (h t List.mem_cons_self).trans a1, ?_, b1.2⟩ (ih _ _ (fun t' ht' => h t' (List.mem_cons_of_mem _ ht')) a2 b2)
          rw [b1.1]
          exact PyKV.krep _ _ _
  exact main ts ks d.kv hts' hpr r3
/-! slices -/
def cutL (xs : List α) (lo hi : Option Int) : List α := (xs.drop (HT.sIx xs.length 0 lo)).take (HT.sIx xs.length xs.length hi - HT.sIx xs.length 0 lo)
theorem eo_none : EvO ε tNoPart σ W none := fun W1 g1 Q k => k W1 g1.rf
theorem eo_some {i : Int} (h : EvR ε K te σ W i) : EvO ε (tPart te) σ W (some i) := fun W1 g1 Q k => h W1 g1 _ fun v W2 g2 r => ⟨i, r, k W2 g2⟩
theorem ev_slL {tl th : TO} {xs : List α} {lo hi : Option Int} (h : EvR ε K te σ W xs) (h1 : EvO ε tl σ W lo) (h2 : EvO ε th σ W hi) : EvR ε K (tSl (rSlL K) te tl th) σ W (cutL xs lo hi) := fun W1 g1 Q k =>
  h W1 g1 _ fun v W2 g2 rx => h1 W2 (g1.trans g2) _ fun W3 g3 => h2 W3 ((g1.trans g2).trans g3) _ fun W4 g4 => by
    obtain ⟨a, vs, e, s, r⟩ := rep_s g4 (rep_s g3 rx)
    refine ⟨a, vs, e, SqL.of (W4.sub.el s), fun p hp => k _ (W4.add p _) (((g2.trans g3).trans g4).and (W4.grow_add hp)) ⟨p, _, rfl, upd_same, Reps.mono (exExt (W4.grow_add hp).b) ?_⟩⟩
    unfold cutV cutL
    rw [Reps.len r]
    exact Reps.take _ (Reps.drop _ r)
theorem ev_revL {xs : List α} (h : EvR ε K te σ W xs) : EvR ε K (tRevL K te) σ W xs.reverse := fun W1 g1 Q k => h W1 g1 _ fun v W2 g2 ⟨a, vs, e, s, r⟩ =>
  ⟨a, vs, e, SqL.of (W2.sub.el s), fun p hp => k _ (W2.add p _) (g2.and (W2.grow_add hp)) ⟨p, _, rfl, upd_same, Reps.mono (exExt (W2.grow_add hp).b) (Reps.rev r)⟩⟩
end

/-! ### what is walked -/
/-- J walks xs in every world that S tells -/
structure Src {α : Type} [Py α] (K : Fg) (J : It) (S : Wd → Prop) (xs : List α) : Prop where
  go : ∀ i W', S W' → i < xs.length → J.go i W'.H
  yld : ∀ i W' v H'', S W' → i < xs.length → J.yld i W'.H v H'' → ∃ x W'', W''.H = H'' ∧ Grow W' W'' ∧ xs[i]? = some x ∧ rep K W''.B v x
  stop : ∀ i W', S W' → xs.length ≤ i → J.stop i W'.H
def EvI {α : Type} [Py α] (ε : Ef) (K : Fg) (wi : TI) (σ : SS) (W : Wd) (xs : List α) : Prop :=
  ∀ W1, Stp ε W W1 → ∀ R : It → Hp → Prop, (∀ J S W2, Stp ε W1 W2 → S W2 → (∀ W W', S W → Stp ε W W' → S W') → Src K J S xs → R J W2.H) → wi σ W1.H R
def EvJ {α : Type} [Py α] (ε : Ef) (K : Fg) (wi : TI) (σ : SS) (W : Wd) (xs : List α) : Prop :=
  ∀ W1, Stp ε W W1 → ∀ R : It → Hp → Prop, (∀ J W2, Stp ε W1 W2 → Src K J (On W2) xs → R J W2.H) → wi σ W1.H R
section
variable {α β γ : Type} [Py α] [Py β] [Py γ] {K : Fg} {σ : SS} {W W' : Wd} {v : V} {te ta tb : TE} {wi : TI} {ε : Ef}
theorem EvJ.i {xs : List α} (h : EvJ ε K wi σ W xs) : EvI ε K wi σ W xs := fun W1 g1 R k => h W1 g1 R fun J W2 g2 s => k J (On W2) W2 g2 (.refl _) (fun _ _ a b => a.trans b.on) s
theorem ei_list {xs : List α} (h : EvR ε K te σ W xs) : EvJ ε K (iList K te) σ W xs := fun W1 g1 R k => h W1 g1 _ fun v W2 g2 ⟨a, vs, e, s, r⟩ =>
  ⟨a, e, ⟨vs, SqL.of (W2.sub.el s)⟩, k (Itl K a) W2 g2 ⟨fun i W' o hi => by
      obtain ⟨x, hx⟩ : ∃ x, xs[i]? = some x := ⟨xs[i], by simp [hi]⟩
      obtain ⟨v, h1, _⟩ := Reps.get' r hx
      exact ⟨vs, v, SqL.of (W'.sub.el (o.b _ _ s)), h1⟩,
    fun i W' v H'' o hi ⟨e1, e2⟩ => by
      obtain ⟨x, h1, h2⟩ := Reps.get r (e2 vs (SqL.of (W'.sub.el (o.b _ _ s))))
      exact ⟨x, W', e1.symm, .refl _ _, h1, rex o.b h2⟩,
    fun i W' o hi => ⟨vs, SqL.of (W'.sub.el (o.b _ _ s)), by rw [Reps.len r]; exact hi⟩⟩⟩
theorem ei_tup {xs : Tup α} (h : EvR ε K te σ W xs) : EvJ ε K (iTup K te) σ W xs.items := fun W1 g1 R k => h W1 g1 _ fun v W2 g2 ⟨a, vs, e, s, r⟩ =>
  ⟨a, e, ⟨vs, SqT.of (W2.sub.et s)⟩, k (Itt K a) W2 g2 ⟨fun i W' o hi => by
      obtain ⟨x, hx⟩ : ∃ x, xs.items[i]? = some x := ⟨xs.items[i], by simp [hi]⟩
      obtain ⟨v, h1, _⟩ := Reps.get' r hx
      exact ⟨vs, v, SqT.of (W'.sub.et (o.b _ _ s)), h1⟩,
    fun i W' v H'' o hi ⟨e1, e2⟩ => by
      obtain ⟨x, h1, h2⟩ := Reps.get r (e2 vs (SqT.of (W'.sub.et (o.b _ _ s))))
      exact ⟨x, W', e1.symm, .refl _ _, h1, rex o.b h2⟩,
    fun i W' o hi => ⟨vs, SqT.of (W'.sub.et (o.b _ _ s)), by rw [Reps.len r]; exact hi⟩⟩⟩
/-- lo, lo + 1, .. -/
def rng (lo : Int) (n : Nat) : List Int := (List.range n).map fun i => lo + (i : Nat)
theorem rng_len (lo : Int) (n : Nat) : (rng lo n).length = n := by unfold rng; simp
theorem rng_get {lo : Int} {n i : Nat} (h : i < n) : (rng lo n)[i]? = some (lo + (i : Nat)) := by unfold rng; simp [h]
theorem rng_mem {lo k : Int} {n : Nat} : k ∈ rng lo n ↔ lo ≤ k ∧ k < lo + n := by
  unfold rng
  simp only [List.mem_map, List.mem_range]
  constructor
  · rintro ⟨i, h, rfl⟩; omega
  · rintro ⟨h1, h2⟩; exact ⟨(k - lo).toNat, by omega, by omega⟩
theorem src_range {lo : Int} {n : Nat} {S : Wd → Prop} : Src K (Itr lo n) S (rng lo n) :=
  ⟨fun i W' _ hi => by rw [rng_len] at hi; exact hi, fun i W' v H'' _ hi ⟨e1, e2⟩ => ⟨_, W', e1.symm, .refl _ _, rng_get (by rw [rng_len] at hi; exact hi), e2⟩,
    fun i W' _ hi => by rw [rng_len] at hi; exact hi⟩
theorem ei_rng1 {n : Int} (h : EvR ε K ta σ W n) (hn : n ≤ 1000000000) (hm : -1000000000 ≤ n) : EvJ ε K (iRng1 (tCons ta tNil)) σ W (rng 0 n.toNat) := fun W1 g1 R k => h W1 g1 _ fun v W2 g2 r =>
  ⟨n, by rw [show v = _ from r], by omega, by omega, k _ W2 g2 src_range⟩
theorem ei_rng2 {m n : Int} (ha : EvR ε K ta σ W m) (hb : EvR ε K tb σ W n) (h1 : m ≤ 1000000000 ∧ -1000000000 ≤ m ∧ n ≤ 1000000000 ∧ -1000000000 ≤ n) : EvJ ε K (iRng2 (tCons ta (tCons tb tNil))) σ W (rng m (n - m).toNat) := fun W1 g1 R k => ha W1 g1 _ fun v W2 g2 r =>
  hb W2 (g1.trans g2) _ fun u W3 g3 ru => ⟨m, n, by rw [show v = _ from r, show u = _ from ru], by omega, k _ W3 (g2.trans g3) src_range⟩
theorem ei_enum {xs : List α} (h : EvR ε K te σ W xs) : EvJ ε K (iEnum K (tCons te tNil)) σ W ((rng 0 xs.length).zip xs) := fun W1 g1 R k => h W1 g1 _ fun v W2 g2 ⟨a, vs, e, s, r⟩ =>
  ⟨a, vs, by rw [e], SqL.of (W2.sub.el s), k (Ite K a) W2 g2 ⟨fun i W' o hi => by
      have hi' : i < xs.length := by simp [rng_len] at hi; exact hi
      obtain ⟨x, hx⟩ : ∃ x, xs[i]? = some x := ⟨xs[i], by simp [hi']⟩
      obtain ⟨v, h1, _⟩ := Reps.get' r hx
      exact ⟨vs, v, SqL.of (W'.sub.el (o.b _ _ s)), h1⟩,
    fun i W' v H'' o hi ⟨T, x, e1, hT, e2, e3⟩ => by
      have hi' : i < xs.length := by simp [rng_len] at hi; exact hi
      obtain ⟨y, h1, h2⟩ := Reps.get r (e3 vs (SqL.of (W'.sub.el (o.b _ _ s))))
      refine ⟨((i : Int), y), W'.add T _, e2.symm, W'.grow_add hT, ?_, T, .int (i : Nat), x, e1, upd_same, rfl, rep_g (W'.grow_add hT) (rex o.b h2)⟩
      rw [List.getElem?_zip_eq_some]
      exact ⟨by rw [rng_get hi']; simp, h1⟩,
    fun i W' o hi => ⟨vs, SqL.of (W'.sub.el (o.b _ _ s)), by rw [Reps.len r]; simp [rng_len] at hi; exact hi⟩⟩⟩
theorem ei_zip {xs : List α} {ys : List β} (ha : EvR ε K ta σ W xs) (hb : EvR ε K tb σ W ys) : EvJ ε K (iZip K (tCons ta (tCons tb tNil))) σ W (xs.zip ys) := fun W1 g1 R k => ha W1 g1 _ fun v W2 g2 r1 => hb W2 (g1.trans g2) _ fun u W3 g3 r2 => by
  obtain ⟨a, vs, e, s, r⟩ := rep_s g3 r1
  obtain ⟨b, us, e', s', r'⟩ := r2
  refine ⟨a, b, vs, us, by rw [e, e'], SqL.of (W3.sub.el s), SqL.of (W3.sub.el s'), k (Itz K a b) W3 (g2.trans g3) ⟨fun i W' o hi => ?_, fun i W' v H'' o hi ⟨T, x, y, e1, hT, e2, e3, e4⟩ => ?_, fun i W' o hi => ?_⟩⟩
  · have hi' : i < xs.length ∧ i < ys.length := by simp at hi; omega
    obtain ⟨x, hx⟩ : ∃ x, xs[i]? = some x := ⟨xs[i], by simp [hi'.1]⟩
    obtain ⟨y, hy⟩ : ∃ x, ys[i]? = some x := ⟨ys[i], by simp [hi'.2]⟩
    obtain ⟨v, h1, _⟩ := Reps.get' r hx
    obtain ⟨u, h2, _⟩ := Reps.get' r' hy
    exact ⟨vs, us, v, u, SqL.of (W'.sub.el (o.b _ _ s)), SqL.of (W'.sub.el (o.b _ _ s')), h1, h2⟩
  · obtain ⟨p, h1, h2⟩ := Reps.get r (e3 vs (SqL.of (W'.sub.el (o.b _ _ s))))
    obtain ⟨q, h3, h4⟩ := Reps.get r' (e4 us (SqL.of (W'.sub.el (o.b _ _ s'))))
    refine ⟨(p, q), W'.add T _, e2.symm, W'.grow_add hT, ?_, T, x, y, e1, upd_same, rep_g (W'.grow_add hT) (rex o.b h2), rep_g (W'.grow_add hT) (rex o.b h4)⟩
    rw [List.getElem?_zip_eq_some]
    exact ⟨h1, h3⟩
  · refine ⟨vs, us, SqL.of (W'.sub.el (o.b _ _ s)), SqL.of (W'.sub.el (o.b _ _ s')), ?_⟩
    rw [Reps.len r, Reps.len r']
    simp at hi
    omega
end
end B
/-! B: comprehensions, locked dicts, statements, calls -/
namespace B
open PySem L2
open Evl (Ex)
/-! ### an iterated target -/
def GT {α : Type} [Py α] (K : Fg) (g : TG) (P : α → SS → SS → Wd → Prop) : Prop :=
  ∀ x v W σ (Q : SS → Hp → Prop), rep K W.B v x → (∀ σ2, P x σ σ2 W → Q σ2 W.H) → g v σ W.H Q
section
variable {α β γ : Type} [Py α] [Py β] [Py γ] {K : Fg} {σ : SS} {W W' : Wd} {v : V} {te ta tb : TE} {tt : TT} {wi : TI} {g : TG} {vs : List Nat} {ε : Ef}
def PN (K : Fg) (j : Nat) (x : α) (σ σ2 : SS) (W : Wd) : Prop := ∃ v, rep K W.B v x ∧ σ2 = σ.set j (some v)
def PP (K : Fg) (i j : Nat) (x : α × β) (σ σ2 : SS) (W : Wd) : Prop := ∃ v u, rep K W.B v x.1 ∧ rep K W.B u x.2 ∧ σ2 = (σ.set i (some v)).set j (some u)
theorem gt_name {j : Nat} : GT (α := α) K (gName j) (PN K j) := fun x v W σ Q r k => k _ ⟨v, r, rfl⟩
abbrev gPair (K : Fg) (i j : Nat) : TG := gTup K 2 (gCons (gName i) (gCons (gName j) gNil))
theorem gt_pair {i j : Nat} : GT (α := α × β) K (gPair K i j) (PP K i j) := fun x v W σ Q ⟨a, p, q, e, s, r1, r2⟩ k =>
  ⟨a, [p, q], e, SqT.of (W.sub.et s), rfl, p, [q], rfl, q, [], rfl, rfl, k _ ⟨p, q, r1, r2, rfl⟩⟩
/-! ### list comprehensions -/
theorem en_lc {xs : List α} {p : α → Bool} {f : α → β} {P : α → SS → SS → Wd → Prop} (hi : EvI ε K wi σ W xs) (hg : GT K g P)
    (hw : ∀ x σ2 W', P x (wipe σ vs) σ2 W' → wipe σ2 vs = wipe σ vs)
    (ht : ∀ x W' σ2, x ∈ xs → Stp ε W W' → P x (wipe σ vs) σ2 W' → EvT ε tt σ2 W' (p x))
    (he : ∀ x W' σ2, x ∈ xs → p x = true → Stp ε W W' → P x (wipe σ vs) σ2 W' → EvR ε K te σ2 W' (f x))
    (hP : ∀ x σ2 W' W'', P x (wipe σ vs) σ2 W' → Stp ε W' W'' → P x (wipe σ vs) σ2 W'')
    (hl : xs.length ≤ 100000) : EvN ε K (tLc wi g tt te vs) σ W ((xs.filter p).map f) := fun W1 g1 Q k =>
  hi W1 g1 _ fun J S W2 g2 s2 sg src D hD => by
    have DS : D ∉ ε.S := Ef.off g2.i hD
    refine ⟨fun i m H => m = xs.length - i ∧ i ≤ xs.length ∧ ∃ Wi acc, Wi.H = H ∧ Stp ε W2 Wi ∧ Wi.B D = none ∧ Wi.H D = some (.lst acc) ∧ Reps K Wi.B acc (((xs.take i).filter p).map f), ⟨xs.length, rfl, Nat.zero_le _, W2.put D (.lst []) (W2.free hD), [], rfl, ⟨md_mut (.refl _ _) (W2.free hD) hD, i_put DS g2.i _⟩, W2.free hD, upd_same, by simpa using Paired.nil⟩, ?_⟩
    rintro i m H ⟨rfl, hle, Wi, acc, rfl, gi, bD, hDi, rs⟩
    have si : S Wi := sg _ _ s2 gi
    have hacc : acc.length ≤ i := by
      rw [Reps.len rs, List.length_map]
      exact Nat.le_trans (List.length_filter_le _ _) (by rw [List.length_take]; omega)
    by_cases hlt : i < xs.length
    · refine .inr ⟨src.go i Wi si hlt, fun H => i + 1 ≤ xs.length ∧ ∃ Wi acc, Wi.H = H ∧ Stp ε W2 Wi ∧ Wi.B D = none ∧ Wi.H D = some (.lst acc) ∧ Reps K Wi.B acc (((xs.take (i + 1)).filter p).map f), fun H' h' => ⟨_, by omega, rfl, h'⟩, fun v H'' hy => ?_⟩
      obtain ⟨x, W3, rfl, g3', hx, r⟩ := src.yld i Wi v H'' si hlt hy
      have g3 : Stp ε Wi W3 := gi.rf.and g3'
      have hm : x ∈ xs := List.mem_of_getElem? hx
      have tk : xs.take (i + 1) = xs.take i ++ [x] := by rw [List.take_add_one, hx]; rfl
      have m3 := g3.md.mut DS hDi bD
      refine hg x v W3 _ _ r fun σ2 hp => ⟨hw x σ2 W3 hp, ?_⟩
      refine ht x W3 σ2 hm (((g1.trans g2).trans gi).trans g3) hp W3 g3.rf _ fun W4 g4 => ?_
      have m4 := g4.md.mut DS m3.1 m3.2
      cases hpx : p x with
      | true =>
        rw [if_pos rfl]
        refine he x W4 σ2 hm hpx ((((g1.trans g2).trans gi).trans g3).trans g4) (hP x σ2 W3 W4 hp g4) W4 g4.rf _ fun u W5 g5 r5 => ?_
        have m5 := g5.md.mut DS m4.1 m4.2
        refine ⟨acc, m5.1, Evl.sz_lt (by omega), hlt, W5.put D _ m5.2, acc ++ [u], rfl, ⟨md_mut (((gi.trans g3).trans g4).trans g5).md m5.2 hD, i_put DS g5.i _⟩, m5.2, upd_same, ?_⟩
        rw [tk, List.filter_append, List.map_append]
        simp only [List.filter_cons, hpx, if_pos, List.filter_nil, List.map_cons, List.map_nil]
        exact Reps.snoc (Reps.mono (exExt ((g3.trans g4).trans g5).md.b) rs) r5
      | false =>
        rw [if_neg Bool.false_ne_true]
        refine ⟨hlt, W4, acc, rfl, (gi.trans g3).trans g4, m4.2, m4.1, ?_⟩
        rw [tk, List.filter_append, List.map_append]
        simp only [List.filter_cons, hpx, List.filter_nil, List.map_nil, List.append_nil, if_neg Bool.false_ne_true]
        exact Reps.mono (exExt (g3.trans g4).md.b) rs
    · have e : i = xs.length := by omega
      subst e
      rw [List.take_length] at rs
      exact .inl ⟨src.stop _ Wi si (Nat.le_refl _), k D acc Wi (g2.trans gi) (by
        cases e : W1.H D with
        | none => rfl
        | some o => exact absurd hD (g2.md.d D (by rw [e]; exact fun z => by cases z))) bD hDi rs⟩
theorem et_yes : EvT ε tYes σ W true := fun W1 g1 Q k => k W1 g1.rf
theorem wipe1 {j : Nat} {v : V} : wipe ((wipe σ [j]).set j (some v)) [j] = wipe σ [j] := by simp [wipe, List.set_set]
theorem set_none_comm {σ : SS} {i j : Nat} {a : Option V} (h : i ≠ j) : (σ.set i a).set j none = (σ.set j none).set i a := List.set_comm _ _ h
theorem wipe2 {i j : Nat} {v u : V} : wipe (((wipe σ [i, j]).set i (some v)).set j (some u)) [i, j] = wipe σ [i, j] := by
  simp only [wipe]
  by_cases h : i = j
  · subst h; simp [List.set_set]
  · rw [List.set_set, set_none_comm (σ := ((σ.set j none).set i none)) h, List.set_set, List.set_comm (l := σ) _ _ (Ne.symm h), List.set_set]
    rw [List.set_comm (l := σ) _ _ h, List.set_set]
theorem filter_yes (xs : List α) : xs.filter (fun _ => true) = xs := List.filter_eq_self.mpr fun _ _ => rfl
/-- [e for x in ..], [e for x in .. if t] -/
theorem en_lcN {j : Nat} {xs : List α} {f : α → β} (hi : EvI ε K wi σ W xs) (he : ∀ x v W', x ∈ xs → Stp ε W W' → rep K W'.B v x → EvR ε K te ((wipe σ [j]).set j (some v)) W' (f x)) (hl : xs.length ≤ 100000) :
    EvN ε K (tLc wi (gName j) tYes te [j]) σ W (xs.map f) := by
  have := en_lc (ε := ε) (K := K) (wi := wi) (g := gName j) (tt := tYes) (te := te) (vs := [j]) (p := fun _ => true) (f := f) hi gt_name (fun x σ2 W' ⟨v, _, e⟩ => by rw [e]; exact wipe1) (fun _ _ _ _ _ _ => et_yes)
    (fun x W' σ2 hm _ g ⟨v, r, e⟩ => by rw [e]; exact he x v W' hm g r) (fun x σ2 W' W'' ⟨v, r, e⟩ g => ⟨v, rep_s g r, e⟩) hl
  rw [filter_yes] at this
  exact this
theorem ev_lcN {j : Nat} {xs : List α} {f : α → β} (hi : EvI ε K wi σ W xs) (he : ∀ x v W', x ∈ xs → Stp ε W W' → rep K W'.B v x → EvR ε K te ((wipe σ [j]).set j (some v)) W' (f x)) (hl : xs.length ≤ 100000) :
    EvR ε K (tLc wi (gName j) tYes te [j]) σ W (xs.map f) := (en_lcN hi he hl).toR
theorem en_lcNt {j : Nat} {xs : List α} {p : α → Bool} {f : α → β} (hi : EvI ε K wi σ W xs) (ht : ∀ x v W', x ∈ xs → Stp ε W W' → rep K W'.B v x → EvT ε tt ((wipe σ [j]).set j (some v)) W' (p x))
    (he : ∀ x v W', x ∈ xs → p x = true → Stp ε W W' → rep K W'.B v x → EvR ε K te ((wipe σ [j]).set j (some v)) W' (f x)) (hl : xs.length ≤ 100000) :
    EvN ε K (tLc wi (gName j) tt te [j]) σ W ((xs.filter p).map f) :=
  en_lc hi gt_name (fun x σ2 W' ⟨v, _, e⟩ => by rw [e]; exact wipe1) (fun x W' σ2 hm g ⟨v, r, e⟩ => by rw [e]; exact ht x v W' hm g r)
    (fun x W' σ2 hm hp g ⟨v, r, e⟩ => by rw [e]; exact he x v W' hm hp g r) (fun x σ2 W' W'' ⟨v, r, e⟩ g => ⟨v, rep_s g r, e⟩) hl
theorem ev_lcNt {j : Nat} {xs : List α} {p : α → Bool} {f : α → β} (hi : EvI ε K wi σ W xs) (ht : ∀ x v W', x ∈ xs → Stp ε W W' → rep K W'.B v x → EvT ε tt ((wipe σ [j]).set j (some v)) W' (p x))
    (he : ∀ x v W', x ∈ xs → p x = true → Stp ε W W' → rep K W'.B v x → EvR ε K te ((wipe σ [j]).set j (some v)) W' (f x)) (hl : xs.length ≤ 100000) :
    EvR ε K (tLc wi (gName j) tt te [j]) σ W ((xs.filter p).map f) := (en_lcNt hi ht he hl).toR
theorem en_lcP {i j : Nat} {xs : List (α × β)} {f : α × β → γ} (hi : EvI ε K wi σ W xs) (he : ∀ x v u W', x ∈ xs → Stp ε W W' → rep K W'.B v x.1 → rep K W'.B u x.2 → EvR ε K te (((wipe σ [i, j]).set i (some v)).set j (some u)) W' (f x)) (hl : xs.length ≤ 100000) :
    EvN ε K (tLc wi (gPair K i j) tYes te [i, j]) σ W (xs.map f) := by
  have := en_lc (ε := ε) (K := K) (wi := wi) (g := gPair K i j) (tt := tYes) (te := te) (vs := [i, j]) (p := fun _ => true) (f := f) hi gt_pair (fun x σ2 W' ⟨v, u, _, _, e⟩ => by rw [e]; exact wipe2) (fun _ _ _ _ _ _ => et_yes)
    (fun x W' σ2 hm _ g ⟨v, u, r, r', e⟩ => by rw [e]; exact he x v u W' hm g r r') (fun x σ2 W' W'' ⟨v, u, r, r', e⟩ g => ⟨v, u, rep_s g r, rep_s g r', e⟩) hl
  rw [filter_yes] at this
  exact this
theorem ev_lcP {i j : Nat} {xs : List (α × β)} {f : α × β → γ} (hi : EvI ε K wi σ W xs) (he : ∀ x v u W', x ∈ xs → Stp ε W W' → rep K W'.B v x.1 → rep K W'.B u x.2 → EvR ε K te (((wipe σ [i, j]).set i (some v)).set j (some u)) W' (f x)) (hl : xs.length ≤ 100000) :
    EvR ε K (tLc wi (gPair K i j) tYes te [i, j]) σ W (xs.map f) := (en_lcP hi he hl).toR
theorem en_lcPt {i j : Nat} {xs : List (α × β)} {p : α × β → Bool} {f : α × β → γ} (hi : EvI ε K wi σ W xs) (ht : ∀ x v u W', x ∈ xs → Stp ε W W' → rep K W'.B v x.1 → rep K W'.B u x.2 → EvT ε tt (((wipe σ [i, j]).set i (some v)).set j (some u)) W' (p x))
    (he : ∀ x v u W', x ∈ xs → p x = true → Stp ε W W' → rep K W'.B v x.1 → rep K W'.B u x.2 → EvR ε K te (((wipe σ [i, j]).set i (some v)).set j (some u)) W' (f x)) (hl : xs.length ≤ 100000) :
    EvN ε K (tLc wi (gPair K i j) tt te [i, j]) σ W ((xs.filter p).map f) :=
  en_lc hi gt_pair (fun x σ2 W' ⟨v, u, _, _, e⟩ => by rw [e]; exact wipe2) (fun x W' σ2 hm g ⟨v, u, r, r', e⟩ => by rw [e]; exact ht x v u W' hm g r r')
    (fun x W' σ2 hm hp g ⟨v, u, r, r', e⟩ => by rw [e]; exact he x v u W' hm hp g r r') (fun x σ2 W' W'' ⟨v, u, r, r', e⟩ g => ⟨v, u, rep_s g r, rep_s g r', e⟩) hl
theorem ev_lcPt {i j : Nat} {xs : List (α × β)} {p : α × β → Bool} {f : α × β → γ} (hi : EvI ε K wi σ W xs) (ht : ∀ x v u W', x ∈ xs → Stp ε W W' → rep K W'.B v x.1 → rep K W'.B u x.2 → EvT ε tt (((wipe σ [i, j]).set i (some v)).set j (some u)) W' (p x))
    (he : ∀ x v u W', x ∈ xs → p x = true → Stp ε W W' → rep K W'.B v x.1 → rep K W'.B u x.2 → EvR ε K te (((wipe σ [i, j]).set i (some v)).set j (some u)) W' (f x)) (hl : xs.length ≤ 100000) :
    EvR ε K (tLc wi (gPair K i j) tt te [i, j]) σ W ((xs.filter p).map f) := (en_lcPt hi ht he hl).toR
end

/-! ### a dict, locked -/
structure Lk (W WL : Wd) (d : Addr) (ks : List (Key × V)) : Prop where
  b : Ex W.B WL.B
  lk : ∃ od, WL.H d = some (.frz od (.dK ks))
  h : ∀ a o, a ≠ d → W.H a = some o → WL.H a = some o
section
variable {α β : Type} [Py α] [Py β] {K : Fg} {σ : SS} {W W' : Wd} {v : V} {te : TE} {t : TE} {ε : Ef}
theorem rep_lk {WL : Wd} {d : Addr} {ks : List (Key × V)} {x : α} (l : Lk W WL d ks) (h : rep K W.B v x) : rep K WL.B v x := rex l.b h
theorem ev_lock {d : Addr} {ks : List (Key × V)} {x : α} (hd : W.H d = some (.dK ks)) (h : ∀ WL, Lk W WL d ks → EvR pur K t σ WL x) : EvR pur K (tLockE t) σ W x := fun W1 g1' Q k => by
  have g1 := g1'.pure
  have hd1 := g1.h _ _ hd
  refine ⟨d, _, hd1, trivial, fun od => ?_⟩
  have sub : Ext W1.B (upd W1.H d (.frz od (.dK ks))) := fun a o e => by
    by_cases q : a = d
    · subst q
      rcases W1.sub a o e with h1 | ⟨⟨k', rfl⟩, ob, h1⟩
      · rw [hd1] at h1; cases h1
        exact .inr ⟨⟨ks, rfl⟩, od, upd_same⟩
      · rw [hd1] at h1; cases h1
    · rw [upd_ne q]; exact W1.sub a o e
  let WL : Wd := ⟨W1.B, upd W1.H d (.frz od (.dK ks)), sub⟩
  have lk : Lk W WL d ks := ⟨g1.b, ⟨od, upd_same⟩, fun a o q e => by
    show upd W1.H d _ a = some o
    rw [upd_ne q]; exact g1.h a o e⟩
  refine h WL lk WL (.start trivial) _ fun v W2 g2' r => ?_
  have g2 := g2'.pure
  have h2 : W2.H d = some (.frz od (.dK ks)) := g2.h _ _ upd_same
  refine ⟨h2, ?_⟩
  have hB : W2.B d = W1.B d := g2.m d ⟨.frz od (.dK ks), upd_same, fun _ z => by cases z⟩
  have sub3 : Ext W2.B (upd W2.H d (.dK ks)) := fun a o e => by
    by_cases q : a = d
    · subst q
      rw [hB] at e
      rcases W1.sub a o e with h1 | ⟨⟨k', rfl⟩, ob, h1⟩
      · rw [hd1] at h1; cases h1; exact .inl upd_same
      · rw [hd1] at h1; cases h1
    · rw [upd_ne q]; exact W2.sub a o e
  refine k v ⟨W2.B, upd W2.H d (.dK ks), sub3⟩ (.of (.mk g2.b (fun a o e => ?_) (fun a ha => ?_))) r
  · show upd W2.H d (.dK ks) a = some o
    by_cases q : a = d
    · subst q; rw [hd1] at e; cases e; exact upd_same
    · rw [upd_ne q]
      exact g2.h a o (by show upd W1.H d _ a = some o; rw [upd_ne q]; exact e)
  · refine g2.m a ?_
    show Nt (upd W1.H d _) a
    by_cases q : a = d
    · subst q; exact ⟨_, upd_same, fun _ z => by cases z⟩
    · obtain ⟨u, e, hu⟩ := ha
      exact ⟨u, (upd_ne q).trans e, hu⟩
section
variable {κ : Type} [PyKV κ] {d : Addr} {ks : List (Key × V)} {kv : List (κ × α)}
theorem ei_items {WL : Wd} (hv : EvR pur K te σ WL (Raw.mk (.ref d))) (lk : ∃ od, WL.H d = some (.frz od (.dK ks))) (r : KReps K WL.B ks kv) : EvI pur K (iItems te) σ WL kv := fun W1 g1 R k => hv W1 g1 _ fun v W2 g2 e => by
  obtain ⟨od, hod⟩ := lk
  have h2 := (g1.trans g2).pure.h _ _ hod
  refine ⟨d, od, ks, e, h2, k (Iti d od ks) (fun W' => W'.H d = some (.frz od (.dK ks)) ∧ Ex WL.B W'.B) W2 g2 ⟨h2, (g1.trans g2).md.b⟩ (fun W W' ⟨a, b⟩ g => ⟨g.pure.h _ _ a, b.trans g.md.b⟩) ⟨fun i W' s hi => ⟨s.1, by rw [KReps.len r]; exact hi⟩, fun i W' v H'' s hi ⟨T, k', v', h1, e1, hT, e2⟩ => ?_, fun i W' s hi => ⟨s.1, by rw [KReps.len r]; exact hi⟩⟩⟩
  obtain ⟨q, hq, hk, hr⟩ := KReps.get r h1
  refine ⟨q, W'.add T _, e2.symm, W'.grow_add hT, hq, T, _, _, e1, upd_same, ?_, rep_g (W'.grow_add hT) (rex s.2 hr)⟩
  rw [hk]
  exact PyKV.krep _ _ _
theorem ei_keys {WL : Wd} (hv : EvR pur K te σ WL (Raw.mk (.ref d))) (lk : ∃ od, WL.H d = some (.frz od (.dK ks))) (r : KReps K WL.B ks kv) : EvI pur K (iKeys te) σ WL (kv.map (·.1)) := fun W1 g1 R k => hv W1 g1 _ fun v W2 g2 e => by
  obtain ⟨od, hod⟩ := lk
  have h2 := (g1.trans g2).pure.h _ _ hod
  refine ⟨d, od, e, .inl ⟨ks, h2, k (Itk d od ks) (fun W' => W'.H d = some (.frz od (.dK ks)) ∧ Ex WL.B W'.B) W2 g2 ⟨h2, (g1.trans g2).md.b⟩ (fun W W' ⟨a, b⟩ g => ⟨g.pure.h _ _ a, b.trans g.md.b⟩) ⟨fun i W' s hi => ⟨s.1, by rw [KReps.len r]; simpa using hi⟩, fun i W' v H'' s hi ⟨e2, k', v', h1, e1⟩ => ?_, fun i W' s hi => ⟨s.1, by rw [KReps.len r]; simpa using hi⟩⟩⟩⟩
  obtain ⟨q, hq, hk, hr⟩ := KReps.get r h1
  exact ⟨q.1, W', e2.symm, .refl _ _, by simp [hq], by rw [e1, hk]; exact PyKV.krep _ _ _⟩
theorem ei_vals {WL : Wd} (hv : EvR pur K te σ WL (Raw.mk (.ref d))) (lk : ∃ od, WL.H d = some (.frz od (.dK ks))) (r : KReps K WL.B ks kv) : EvI pur K (iVals te) σ WL (kv.map (·.2)) := fun W1 g1 R k => hv W1 g1 _ fun v W2 g2 e => by
  obtain ⟨od, hod⟩ := lk
  have h2 := (g1.trans g2).pure.h _ _ hod
  refine ⟨d, od, ks, e, h2, k (Itd d od ks) (fun W' => W'.H d = some (.frz od (.dK ks)) ∧ Ex WL.B W'.B) W2 g2 ⟨h2, (g1.trans g2).md.b⟩ (fun W W' ⟨a, b⟩ g => ⟨g.pure.h _ _ a, b.trans g.md.b⟩) ⟨fun i W' s hi => ⟨s.1, by rw [KReps.len r]; simpa using hi⟩, fun i W' v H'' s hi ⟨e2, k', h1⟩ => ?_, fun i W' s hi => ⟨s.1, by rw [KReps.len r]; simpa using hi⟩⟩⟩
  obtain ⟨q, hq, hk, hr⟩ := KReps.get r h1
  exact ⟨q.2, W', e2.symm, .refl _ _, by simp [hq], rex s.2 hr⟩
end
end

/-! ### statements -/
section
variable {α β γ : Type} [Py α] [Py β] [Py γ] {K : Fg} {σ : SS} {W : Wd} {D : Ends} {te ta tb : TE} {t : TT} {tu tw tz : TS} {x : α} {y : β} {ε : Ef}
theorem s_asgP {P : V → Wd → Prop} {i : Nat} (h : EvP ε te σ W P) (s : ε.I W) (k : ∀ v W', Stp ε W W' → P v W' → D.nx (σ.set i (some v)) W'.H) : tAsg te (gName i) D σ W.H := h W (.start s) _ k
theorem q_asgP {P : V → Wd → Prop} {i : Nat} (h : EvP ε te σ W P) (s : ε.I W) (k : ∀ v W', Stp ε W W' → P v W' → tz D (σ.set i (some v)) W'.H) : tSeq (tAsg te (gName i)) tz D σ W.H := h W (.start s) _ k
theorem q_asg {i : Nat} (h : EvR ε K te σ W x) (s : ε.I W) (k : ∀ v W', Stp ε W W' → rep K W'.B v x → tz D (σ.set i (some v)) W'.H) : tSeq (tAsg te (gName i)) tz D σ W.H := h W (.start s) _ k
theorem s_asg {i : Nat} (h : EvR ε K te σ W x) (s : ε.I W) (k : ∀ v W', Stp ε W W' → rep K W'.B v x → D.nx (σ.set i (some v)) W'.H) : tAsg te (gName i) D σ W.H := h W (.start s) _ k
theorem q_asgN {xs : List α} {i : Nat} (h : EvN ε K te σ W xs) (s : ε.I W) (k : ∀ p vs W', Stp ε W W' → W.H p = none → W'.B p = none → W'.H p = some (.lst vs) → Reps K W'.B vs xs → tz D (σ.set i (some (.ref p))) W'.H) : tSeq (tAsg te (gName i)) tz D σ W.H := h W (.start s) _ k
theorem s_asgN {xs : List α} {i : Nat} (h : EvN ε K te σ W xs) (s : ε.I W) (k : ∀ p vs W', Stp ε W W' → W.H p = none → W'.B p = none → W'.H p = some (.lst vs) → Reps K W'.B vs xs → D.nx (σ.set i (some (.ref p))) W'.H) : tAsg te (gName i) D σ W.H := h W (.start s) _ k
theorem s_retN {xs : List α} (h : EvN ε K te σ W xs) (s : ε.I W) (k : ∀ p vs W', Stp ε W W' → W.H p = none → W'.B p = none → W'.H p = some (.lst vs) → Reps K W'.B vs xs → D.rt (.ref p) W'.H) : tRet te D σ W.H := h W (.start s) _ k
theorem s_ret (h : EvR ε K te σ W x) (s : ε.I W) (k : ∀ v W', Stp ε W W' → rep K W'.B v x → D.rt v W'.H) : tRet te D σ W.H := h W (.start s) _ k
theorem s_retP {P : V → Wd → Prop} (h : EvP ε te σ W P) (s : ε.I W) (k : ∀ v W', Stp ε W W' → P v W' → D.rt v W'.H) : tRet te D σ W.H := h W (.start s) _ k
theorem s_if {b : Bool} (h : EvT ε t σ W b) (s : ε.I W) (h1 : b = true → ∀ W', Stp ε W W' → tu D σ W'.H) (h2 : b = false → ∀ W', Stp ε W W' → tw D σ W'.H) : tIfS t tu tw D σ W.H := h W (.start s) _ fun W' g => by
  cases b with
  | true => rw [if_pos rfl]; exact h1 rfl W' g
  | false => rw [if_neg Bool.false_ne_true]; exact h2 rfl W' g
theorem q_if {b : Bool} (h : EvT ε t σ W b) (s : ε.I W) (h1 : b = true → ∀ W', Stp ε W W' → tu { D with nx := tz D } σ W'.H) (h2 : b = false → ∀ W', Stp ε W W' → tw { D with nx := tz D } σ W'.H) : tSeq (tIfS t tu tw) tz D σ W.H := s_if (D := { D with nx := tz D }) h s h1 h2
/-- an if without else -/
theorem q_when {b : Bool} (h : EvT ε t σ W b) (s : ε.I W) (h1 : b = true → ∀ W', Stp ε W W' → tu { D with nx := tz D } σ W'.H) (h2 : b = false → ∀ W', Stp ε W W' → tz D σ W'.H) : tSeq (tIfS t tu tNext) tz D σ W.H := s_if (D := { D with nx := tz D }) h s h1 h2
theorem s_when {b : Bool} (h : EvT ε t σ W b) (s : ε.I W) (h1 : b = true → ∀ W', Stp ε W W' → tu D σ W'.H) (h2 : b = false → ∀ W', Stp ε W W' → D.nx σ W'.H) : tIfS t tu tNext D σ W.H := s_if h s h1 h2
theorem q_drop {P : V → Wd → Prop} (h : EvP ε te σ W P) (s : ε.I W) (k : ∀ v W', Stp ε W W' → P v W' → tz D σ W'.H) : tSeq (tDrop te) tz D σ W.H := h W (.start s) _ k
theorem q_augI {i : Nat} {f : Int → Int → Int} {a b : Int} (hx : σ[i]? = some (some (.int a))) (h : EvR ε K te σ W b) (s : ε.I W) (k : ∀ W', Stp ε W W' → tz D (σ.set i (some (.int (f a b)))) W'.H) : tSeq (tAug i te (ipI f)) tz D σ W.H :=
  ⟨_, hx, h W (.start s) _ fun u W' g ru => ⟨a, b, rfl, ru, k W' g⟩⟩
theorem s_augI {i : Nat} {f : Int → Int → Int} {a b : Int} (hx : σ[i]? = some (some (.int a))) (h : EvR ε K te σ W b) (s : ε.I W) (k : ∀ W', Stp ε W W' → D.nx (σ.set i (some (.int (f a b)))) W'.H) : tAug i te (ipI f) D σ W.H :=
  ⟨_, hx, h W (.start s) _ fun u W' g ru => ⟨a, b, rfl, ru, k W' g⟩⟩
/-- a, b = x, y -/
theorem q_par {i j : Nat} {P R : V → Wd → Prop} (ha : EvP ε ta σ W P) (hb : EvP ε tb σ W R) (s : ε.I W) (mono : ∀ v W W', Stp ε W W' → P v W → P v W')
    (k : ∀ v u W', Stp ε W W' → P v W' → R u W' → tz D ((σ.set i (some v)).set j (some u)) W'.H) : tSeq (tPar i j (tCons ta (tCons tb tNil))) tz D σ W.H :=
  ha W (.start s) _ fun v W1 g1 p => hb W1 g1 _ fun u W2 g2 r => ⟨v, u, rfl, k v u W2 (g1.trans g2) (mono v W1 W2 g2 p) r⟩
/-- the turns of a for over what J walks: Pv by the turn, the slots, the world -/
theorem for_src {g : TG} {xs : List α} {J : It} {W2 : Wd} (src : Src K J (On W2) xs) (Pv : Nat → SS → Wd → Prop) (h0 : Pv 0 σ W2) (hon : ∀ i σ' W', Pv i σ' W' → On W2 W')
    (hs : ∀ i x v σ' W' W'', i < xs.length → xs[i]? = some x → Pv i σ' W' → Grow W' W'' → rep K W''.B v x → g v σ' W''.H fun σ2 H2 => tu { D with nx := fun σ H => ∃ W, W.H = H ∧ Pv (i + 1) σ W, ct := fun σ H => ∃ W, W.H = H ∧ Pv (i + 1) σ W, bk := D.nx } σ2 H2)
    (hd : ∀ σ' W', Pv xs.length σ' W' → D.nx σ' W'.H) :
    ∃ W : Nat → Nat → SS → Hp → Prop, (∃ m, W 0 m σ W2.H) ∧ ∀ i m σ H, W i m σ H →
      (J.stop i H ∧ D.nx σ H) ∨ (J.go i H ∧ ∃ N : SS → Hp → Prop, (∀ σ' H', N σ' H' → ∃ m', m' < m ∧ W (i + 1) m' σ' H') ∧ ∀ x H', J.yld i H x H' → g x σ H' fun σ2 H2 => tu { D with nx := N, ct := N, bk := D.nx } σ2 H2) := by
  refine ⟨fun i m σ H => m = xs.length - i ∧ i ≤ xs.length ∧ ∃ W, W.H = H ∧ Pv i σ W, ⟨xs.length, rfl, Nat.zero_le _, W2, rfl, h0⟩, ?_⟩
  rintro i m σ' H ⟨rfl, hle, W', rfl, p⟩
  by_cases hlt : i < xs.length
  · refine .inr ⟨src.go i W' (hon i σ' W' p) hlt, fun σ H => ∃ W, W.H = H ∧ Pv (i + 1) σ W, fun σ'' H'' q => ⟨_, by omega, rfl, hlt, q⟩, fun v H'' hy => ?_⟩
    obtain ⟨x, W'', rfl, gg, hx, r⟩ := src.yld i W' v H'' (hon i σ' W' p) hlt hy
    exact hs i x v σ' W' W'' hlt hx p gg r
  · have e : i = xs.length := by omega
    subst e
    exact .inl ⟨src.stop _ W' (hon _ _ _ p) (Nat.le_refl _), hd σ' W' p⟩
/-- for target in .. -/
theorem s_for {wi : TI} {g : TG} {xs : List α} (hi : EvJ ε K wi σ W xs) (s : ε.I W)
    (k : ∀ W2, Stp ε W W2 → ∃ Pv : Nat → SS → Wd → Prop, Pv 0 σ W2 ∧ (∀ i σ' W', Pv i σ' W' → On W2 W') ∧
      (∀ i x v σ' W' W'', i < xs.length → xs[i]? = some x → Pv i σ' W' → Grow W' W'' → rep K W''.B v x → g v σ' W''.H fun σ2 H2 => tu { D with nx := fun σ H => ∃ W, W.H = H ∧ Pv (i + 1) σ W, ct := fun σ H => ∃ W, W.H = H ∧ Pv (i + 1) σ W, bk := D.nx } σ2 H2) ∧
      (∀ σ' W', Pv xs.length σ' W' → D.nx σ' W'.H)) : tFor wi g tu D σ W.H := hi W (.start s) _ fun J W2 g2 src => by
  obtain ⟨Pv, h0, hon, hs, hd⟩ := k W2 g2
  exact for_src src Pv h0 hon hs hd
theorem q_for {wi : TI} {g : TG} {xs : List α} (hi : EvJ ε K wi σ W xs) (s : ε.I W)
    (k : ∀ W2, Stp ε W W2 → ∃ Pv : Nat → SS → Wd → Prop, Pv 0 σ W2 ∧ (∀ i σ' W', Pv i σ' W' → On W2 W') ∧
      (∀ i x v σ' W' W'', i < xs.length → xs[i]? = some x → Pv i σ' W' → Grow W' W'' → rep K W''.B v x → g v σ' W''.H fun σ2 H2 => tu { D with nx := fun σ H => ∃ W, W.H = H ∧ Pv (i + 1) σ W, ct := fun σ H => ∃ W, W.H = H ∧ Pv (i + 1) σ W, bk := tz D } σ2 H2) ∧
      (∀ σ' W', Pv xs.length σ' W' → tz D σ' W'.H)) : tSeq (tFor wi g tu) tz D σ W.H := s_for (D := { D with nx := tz D }) hi s k
/-- for k in range(a drawn number) -/
theorem for_rng {j : Nat} {n : Int} {W2 : Wd} (Pv : Nat → SS → Wd → Prop) (h0 : Pv 0 σ W2) (hon : ∀ i σ' W', Pv i σ' W' → On W2 W')
    (hs : ∀ (i : Nat) σ' W', (i : Int) < n → Pv i σ' W' → tu { D with nx := fun σ H => ∃ W, W.H = H ∧ Pv (i + 1) σ W, ct := fun σ H => ∃ W, W.H = H ∧ Pv (i + 1) σ W, bk := D.nx } (σ'.set j (some (.int (i : Int)))) W'.H)
    (hd : ∀ σ' W', Pv n.toNat σ' W' → D.nx σ' W'.H) :
    ∃ W : Nat → Nat → SS → Hp → Prop, (∃ m, W 0 m σ W2.H) ∧ ∀ i m σ H, W i m σ H →
      ((Itr 0 n.toNat).stop i H ∧ D.nx σ H) ∨ ((Itr 0 n.toNat).go i H ∧ ∃ N : SS → Hp → Prop, (∀ σ' H', N σ' H' → ∃ m', m' < m ∧ W (i + 1) m' σ' H') ∧ ∀ x H', (Itr 0 n.toNat).yld i H x H' → gName j x σ H' fun σ2 H2 => tu { D with nx := N, ct := N, bk := D.nx } σ2 H2) :=
  L2.for_range (fun i σ H => ∃ W, W.H = H ∧ Pv i σ W) ⟨W2, rfl, h0⟩ (fun i σ H hi ⟨W', e, p⟩ => by
    subst e
    have := hs i σ W' (by omega) p
    show tu _ (σ.set j (some (.int (0 + (i : Nat))))) W'.H
    rw [Int.zero_add]; exact this) (fun σ H ⟨W', e, p⟩ => by subst e; exact hd σ W' p)
/-- while -/
theorem s_while (Wm : Nat → SS → Wd → Prop) (m0 : Nat) (h0 : Wm m0 σ W)
    (hs : ∀ m σ' W', Wm m σ' W' → ε.I W' ∧ ∃ b, EvT ε t σ' W' b ∧ (b = true → ∀ W'', Stp ε W' W'' → tu { D with nx := fun σ H => ∃ m' W, m' < m ∧ W.H = H ∧ Wm m' σ W, ct := fun σ H => ∃ m' W, m' < m ∧ W.H = H ∧ Wm m' σ W, bk := D.nx } σ' W''.H) ∧ (b = false → ∀ W'', Stp ε W' W'' → D.nx σ' W''.H)) : tWhile t tu D σ W.H := by
  refine ⟨fun m σ H => ∃ W, W.H = H ∧ Wm m σ W, ⟨m0, W, rfl, h0⟩, ?_⟩
  rintro m σ' H ⟨W', rfl, w⟩
  obtain ⟨hI, b, ht, h1, h2⟩ := hs m σ' W' w
  refine ht W' (.start hI) _ fun W'' g => ?_
  cases b with
  | true =>
    rw [if_pos rfl]
    exact ⟨fun σ H => ∃ m' W, m' < m ∧ W.H = H ∧ Wm m' σ W, fun σ2 H2 ⟨m', W, hm, e, q⟩ => ⟨m', hm, W, e, q⟩, h1 rfl W'' g⟩
  | false =>
    rw [if_neg Bool.false_ne_true]
    exact h2 rfl W'' g

/-! ### calls of defs -/
theorem ev_callP1 {P R : V → Wd → Prop} {sp : Sp} {E : XK} (ha : EvP ε ta σ W P) (hs : ∀ v W1, Stp ε W W1 → P v W1 → ∀ Q : VK, (∀ u W2, Stp ε W1 W2 → R u W2 → Q u W2.H) → sp [v] W1.H Q E) : EvP ε (tCall sp [] E (tCons ta tNil)) σ W R := fun W1 g1 Q k =>
  ha W1 g1 _ fun v W2 g2 p => hs v W2 (g1.trans g2) p Q fun u W3 g3 r => k u W3 (g2.trans g3) r
theorem ev_callP2 {P P2 R : V → Wd → Prop} {sp : Sp} {E : XK} (ha : EvP ε ta σ W P) (hb : EvP ε tb σ W P2) (mono : ∀ v W W', Stp ε W W' → P v W → P v W')
    (hs : ∀ v v2 W1, Stp ε W W1 → P v W1 → P2 v2 W1 → ∀ Q : VK, (∀ u W2, Stp ε W1 W2 → R u W2 → Q u W2.H) → sp [v, v2] W1.H Q E) : EvP ε (tCall sp [] E (tCons ta (tCons tb tNil))) σ W R := fun W1 g1 Q k =>
  ha W1 g1 _ fun v W2 g2 p => hb W2 (g1.trans g2) _ fun v2 W3 g3 p2 => hs v v2 W3 ((g1.trans g2).trans g3) (mono v W2 W3 g3 p) p2 Q fun u W4 g4 r => k u W4 ((g2.trans g3).trans g4) r
end
end B
/-! B: short names of readings, more derivations -/
namespace B
open PySem L2
open Evl (Ex)
abbrev oAdd : R2 := rI0 fun i j => .int (i + j)
abbrev oSub : R2 := rI0 fun i j => .int (i - j)
abbrev oMul : R2 := rI CMul fun i j => .int (i * j)
abbrev oDiv : R2 := rI CDiv fun i j => .int (i / j)
abbrev oMod : R2 := rI (fun _ j => 0 < j) fun i j => .int (i % j)
abbrev oPow : R2 := rI CPow fun i j => .int (i ^ j.toNat)
abbrev oLt : R2 := rI0 fun i j => .bl (decide (i < j))
abbrev oLe : R2 := rI0 fun i j => .bl (decide (i ≤ j))
abbrev oGt : R2 := rI0 fun i j => .bl (decide (j < i))
abbrev oGe : R2 := rI0 fun i j => .bl (decide (j ≤ i))
abbrev oNeg : V → Hp → VK → Prop := rU fun i => .int (-i)
abbrev oIsN : R2 := fun x y H Q => y = .non ∧ Q (.bl (decide (x = .non))) H
abbrev oNotN : R2 := fun x y H Q => y = .non ∧ Q (.bl (!decide (x = .non))) H
abbrev oCatS : R2 := fun x y H Q => ∃ i j, x = .str i ∧ y = .str j ∧ i.length + j.length ≤ sizeLine ∧ Q (.str (i ++ j)) H
abbrev oLtS : R2 := fun x y H Q => ∃ i j, x = .str i ∧ y = .str j ∧ Q (.bl (decide (i.cps.toList < j.cps.toList))) H
abbrev oInS : R2 := fun x y H Q => ∃ i j, x = .str i ∧ y = .str j ∧ Q (.bl (!(Builtin.Str.occurrences j i 0 j.length 1).isEmpty)) H
abbrev tTru (K : Fg) (ta : TE) : TT := fun σ H Q => ta σ H fun x H' => ∃ k, TruV K x H' k ∧ Q k H'
abbrev rInt1 : List V → Hp → VK → Prop := fun xs H Q => (∃ i, xs = [.int i] ∧ Q (.int i) H) ∨ ∃ k, xs = [.bl k] ∧ Q (.int (if k then 1 else 0)) H
abbrev rTupleO (K : Fg) : List V → Hp → VK → Prop := fun xs H Q => ∃ p ys, xs = [.ref p] ∧ ((SqL K H p ys ∧ ∀ l, H l = none → Q (.ref l) (upd H l (.tup ys))) ∨ (SqT K H p ys ∧ Q (.ref p) H))
abbrev rLenD : List V → Hp → VK → Prop := fun xs H Q => ∃ a kvs, xs = [V.ref a] ∧ H a = some (.dK kvs) ∧ Q (.int kvs.length) H
theorem cr_tupleO {X : Cx} : CallR X (.type "tuple") (rTupleO X.K) := call_tuple_of
theorem cr_lenD {X : Cx} : CallR X (.builtin "len") rLenD := call_lenD

/-! ### name = {k: v for ..} -/
section
variable {X : Cx}
theorem ps_setDc {i : Nat} {y : Str} {py : Pos} {kx vx tg iter : Expr} {ifs : List Expr} {scope : Scope} {own : List (Str × Nat)} {pos spos : Pos} {wi : TI} {g : TG} {tt : TT} {tk tv : TE} (hc : X.calm = true) (hN : X.N.Nodup) (hy : X.N[i]? = some y) (hyl : X.env.scope.names.lookup y = some .local)
    (hsw : swapsWith (.DictComp kx vx [⟨tg, iter, ifs, 0⟩] scope pos) (some (.Name y py)) spos.line X.env = pure true) (hi : PI X tg iter wi) (ok : BlkOk X.N X.env.scope scope own)
    (hg : ∀ (s : Shared) (H : Hp) (C : Addr) (cl : List (Str × Addr)) (fp : List Addr), PG (X.blk s H scope (compEnvC scope cl C X.env) fp) tg g) (ht : ∀ (s : Shared) (H : Hp) (C : Addr) (cl : List (Str × Addr)) (fp : List Addr), PTs (X.blk s H scope (compEnvC scope cl C X.env) fp) ifs tt)
    (hk : ∀ (s : Shared) (H : Hp) (C : Addr) (cl : List (Str × Addr)) (fp : List Addr), PE (X.blk s H scope (compEnvC scope cl C X.env) fp) kx tk)
    (he : ∀ (s : Shared) (H : Hp) (C : Addr) (cl : List (Str × Addr)) (fp : List Addr), PE (X.blk s H scope (compEnvC scope cl C X.env) fp) vx tv) (hs : ∀ x, foldedSetIterable iter X.env x = pure x := by intro _; rfl) :
    PS X (.Assign [.Name y py] (.DictComp kx vx [⟨tg, iter, ifs, 0⟩] scope pos) spos) (tAsg (tDc wi g tt tk tv (own.map (·.2))) (gName i)) := by
  refine ⟨fun pins s σ H D I h => ?_⟩
  rw [exec_Assign_Name_used _ _ _ _ hsw]
  refine wpAny_bind (wpAny_standAt (wpAny_bind ?_))
  show wpAny _ X.A (do let _ ← comprehension (.DictComp kx vx [⟨tg, iter, ifs, 0⟩] scope pos) scope X.env (firstIterPos [⟨tg, iter, ifs, 0⟩] pos) newDict false (eval iter X.env) (some (assign (.Name y py) X.env))) _ _ s
  have h : tDc wi g tt tk tv (own.map (·.2)) σ H (fun x H1 => gName i x σ H1 D.nx) := h
  refine wpAny_bind (thn (dc_core (Qf := fun _ s' => SP X pins D .next s') hc hN I hi ok hg ht hk he hs h fun L C s' m H' I' q hn f => ?_) fun _ s' hq => wpAny_pure (wpAny_pure hq))
  show wpAny _ _ (assign (.Name y py) X.env (.ref L)) _ _ _
  refine wpAny_assign_Name (store_ok2 (v := V.ref L) I' hN hy (.inl hyl) rfl (fun s2 I2 ⟨a, sb, ha⟩ => ?_) (.inr hyl))
  obtain ⟨f0, f1, f2, f3, f4, f5⟩ := f
  have haC : C ≠ a := by
    rcases ha with z | z
    · rw [z]; exact f1
    · exact fun e => f4 y a z e.symm
  refine ⟨m, hn.sameBut sb haC, fun h3 sb3 => ?_⟩
  exact ⟨_, H', I2.turned (t' := s2.toks) (fun b o hb e => (sb3.2 b hb).trans e) f0 f1 f3 f4 f5, q⟩
theorem sw_trueD {kx vx : Expr} {gs : List Comprehension} {scope : Scope} {pos py : Pos} {y : Str} {l : Nat} {env : Env} (hk : env.scope.kind = .function) (hy : env.scope.names.lookup y = some .local) (hl : (py.line == pos.line) = true)
    (ha : (scope.names.any fun (n, k) => n == y && (k == .local || k == .cell)) = false) : swapsWith (.DictComp kx vx gs scope pos) (some (.Name y py)) l env = pure true := by
  have ky : env.kindOf y = some .local := hy
  have hb : env.blockKind = .function := by unfold Env.blockKind; rw [hk]; rfl
  unfold swapsWith
  simp only [hb, ky, ha, Expr.pos, hl]
  rfl
end

/-! ### f(k = v, ..) -/
def perm {ζ : Type} (l : List Nat) (ws : List ζ) : List ζ := l.filterMap fun i => ws[i]?
theorem perm_rel (l : List Nat) {vs : List V} {us : List Value} (r : Vals vs us) : Vals (perm l vs) (perm l us) := by
  induction l with
  | nil => exact .nil
  | cons i l ih =>
    unfold perm
    rw [List.filterMap_cons, List.filterMap_cons]
    cases e : vs[i]? with
    | none =>
      rw [r.none_of e]
      exact ih
    | some v =>
      obtain ⟨u, h1, h2⟩ := r.get e
      rw [h1]
      exact .cons h2 ih
def KwB (K : Fg) (fd : FuncData) (ps ks : List Str) (l : List Nat) : Prop := ∀ (s : Shared) (ws : List Value), K.In s.heap → ws.length = ks.length → BindsTo s fd ⟨[], ks.zip ws⟩ (ps.zip (perm l ws))
theorem kwb_mk {K : Fg} {x qual : Str} {st : Stmt} {f : Addr} {fd : FuncData} {ps ks : List Str} {l : List Nat} (F : Fun K x qual st f fd)
    (h : ∀ (kV doc pm : Value) (an : Option Addr) (cdv ct : Value) (us : List Value), us.length = ks.length → bindArgs (PySem.W.fnOf x qual (defArgs st) (defBody st) (defScope st) .none kV doc pm an cdv ct) ⟨[], ks.zip us⟩ = pure (ps.zip (perm l us))) : KwB K fd ps ks l := by
  obtain ⟨oc, od, kV, doc, pm, an, cdv, ct, osl, rfl, lk, hcd⟩ := F.ex
  exact fun s ws _ hl => .of_eq (h kV doc pm an cdv ct ws hl)
def tCallKw (sp : Sp) (l : List Nat) (m : Nat) (E : XK) (tk : TA) : TE := fun σ H Q => tk σ H fun zs H2 => zs.length = m ∧ sp (perm l zs) H2 Q E
theorem pe_callKw {X : Cx} {CX : CXT} {k : Nat} {f : Addr} {fd : FuncData} {ps ks : List Str} {l : List Nat} {sp : Sp} {E : XK} {x : Str} {p pos : Pos} {kws : List Keyword} {tk : TA} {m : Nat}
    (F : FnOk X.prog X.w X.K X.mg X.base CX k f fd ps sp) (hr : Room k X.A) (hg : Gl X x) (hm : X.mg x = some (.ref f)) (hk : PySem.W.keepIn X.K (.ref f) = true) (hb : KwB X.K fd ps ks l) (hx : Passes CX X E)
    (hkw : PK X kws tk) (hall : (backToKw pos (keywordEach kws X.env)).all (·.1.isSome) = true := by rfl) (hks : (backToKw pos (keywordEach kws X.env)).filterMap (·.1) = ks := by rfl)
    (hm' : m = ks.length := by rfl) (hdb : (x == ("__debug__" : Str)) = false := by decide)
    (hpl : ((backTo pos (starEach [] X.env)).any (·.1) || (backToKw pos (keywordEach kws X.env)).any (·.1.isNone)) = false := by rfl) :
    PE X (.Call (.Name x p) [] kws pos) (tCallKw sp l m E tk) := by
  subst hm'
  refine ⟨fun pins s σ H Q I h => ?_⟩
  refine wpAny_Call_Name_kw (ld_glob I hg hm ?_ hdb)
  refine PySem.W.callWith_KW0 (h₀ := X.base) I.ok.mod.kin hk hall (thn (hkw.run pos pins s σ H _ I h) fun ws s2 ⟨zs, H2, I2, rz, hl, q2⟩ => ⟨I2.kIn, ?_⟩) hpl
  rw [hks]
  have r2 := perm_rel l rz
  refine wpAny_call (codeAny_mono (F.run X.A X.stack s2 H2 ⟨[], ks.zip ws⟩ (perm l ws) (perm l zs) Q E hr I2.env0 (hb s2 ws I2.kIn (by rw [← rz.length]; exact hl)) r2 q2) fun r s' hq => ?_)
  cases r with
  | error e => exact hx pins σ H2 s2 e s' I2 hq
  | ok fl =>
    cases fl with
    | ret u => exact I2.after hq
    | next => exact False.elim hq
    | brk => exact False.elim hq
    | cont => exact False.elim hq
end B
/-! B: rules that the kit has not: zip of a text and a tuple, sum of a tuple, tuple * 1, d.values() as a value -/
namespace B
open PySem L2 PySem.Spec PyProof.Rows
/-! ### zip(text, tuple) -/
def ItzS (K : Fg) (x : Str) (b : Addr) (n : Nat) : It :=
  ⟨fun i H => i < x.cps.size ∧ i < n ∧ ∃ ys : List V, SqT K H b ys ∧ ys.length = n,
    fun i H v H' => ∃ T c y, v = .ref T ∧ H T = none ∧ H' = upd H T (.tup [.str ⟨#[c]⟩, y]) ∧ x.cps[i]? = some c ∧ ∀ ys, SqT K H b ys → ys[i]? = some y,
    fun i H => (x.cps.size ≤ i ∨ n ≤ i) ∧ ∃ ys : List V, SqT K H b ys ∧ ys.length = n⟩
def ZsTn (x : Str) (t : Tok) (b z TI TO i1 i2 : Addr) (n i : Nat) (h : Heap) : Prop := IsZip h z TI TO .none ∧ IsPair h TI (.ref i1) (.ref i2) ∧ (∃ x y, IsPair h TO x y) ∧ h.IsStrIter i1 (strIterType x) x t i ∧ h.IsTupleIter i2 b i ∧ i ≤ x.cps.size ∧ i ≤ n
theorem ti_ne {h : Heap} {i2 b : Addr} {i : Nat} {its : Array Value} (h2 : h.IsTupleIter i2 b i) (p : IsTup h b its) : b ≠ i2 := fun e => by
  obtain ⟨o, ho, hcls, hdat⟩ := id h2
  obtain ⟨o', ho', hc', _⟩ := p
  rw [e, ho] at ho'
  cases ho'
  rw [hcls] at hc'
  have := Value.type.inj hc'
  revert this
  decide
theorem turn_zipS {P : Program} {w : World} {K : Fg} {elts : List Expr} {kk : Nat} {tpos : Pos} {x : Str} {t : Tok} {b z TI TO i1 i2 : Addr} {n : Nat} (D : ZipSep2 z TI TO i1 i2 [i1] [i2, b]) :
    Turn P w K (.Tuple elts kk tpos) (ItzS K x b n) [z, TI, TO, i1, i2] z (ZsTn x t b z TI TO i1 i2 n) where
  mem := by simp
  obj := fun i h st c hc => by
    obtain ⟨hz, hTI, ⟨x, y, hTO⟩, ⟨o1, e1, _, d1⟩, ⟨o2, e2, _, d2⟩, _, _⟩ := st
    simp only [List.mem_cons, List.not_mem_nil, or_false] at hc
    rcases hc with q | q | q | q | q <;> rw [q]
    · exact ⟨_, hz, fun v q => nomatch q⟩
    · exact ⟨_, hTI, fun v q => nomatch q⟩
    · exact ⟨_, hTO, fun v q => nomatch q⟩
    · exact ⟨o1, e1, fun v q => by rw [d1] at q; cases q⟩
    · exact ⟨o2, e2, fun v q => by rw [d2] at q; cases q⟩
  keep := fun i h h' st k => by
    obtain ⟨hz, hTI, ⟨x, y, hTO⟩, ⟨o1, e1, r1⟩, h2, l1, l2⟩ := st
    exact ⟨k z (by simp) _ hz, k TI (by simp) _ hTI, ⟨x, y, k TO (by simp) _ hTO⟩, ⟨o1, k i1 (by simp) _ e1, r1⟩, h2.at fun o q => k i2 (by simp) o q, l1, l2⟩
  item := by
    intro X hP hw hK hc i pins s σ H E I hf st hg
    subst hP hw hK
    obtain ⟨hz, hTI, ⟨x0, y0, hTO⟩, h1, h2, l1, l2⟩ := st
    obtain ⟨g1, g2, ys, hqy, hn⟩ := hg
    obtain ⟨its, rv, p, _⟩ := I.tuple hqy
    have hl : its.length = n := by rw [← rv.length]; exact hn
    have hd : X.A.in1.handled = none := I.ok.hd hc
    refine wpAny_pyNext_zipD2_item D (Draws.text hd i1 x t) (Draws.tuple hd i2 b (ti_ne h2 p) its.toArray) hz hTI hTO h1 ⟨h2, p⟩ g1 (by simpa [hl] using g2) fun u1 u2 h' tk y1 y2 b1 b2 d1 d2 b5 b6 hk => ?_
    have hzl : z < s.heap.objs.size := Heap.lt_size hz
    obtain ⟨c, tc, hcx, rfl⟩ := y1
    obtain ⟨y, hy, ry⟩ : ∃ y, ys[i]? = some y ∧ RelV y u2 := by
      have e2 : its[i]? = some u2 := by simpa using y2
      have hy : ys[i]? = some (ys[i]'(by omega)) := List.getElem?_eq_getElem (by omega)
      obtain ⟨u, e3, r⟩ := rv.get hy
      rw [e2] at e3
      cases e3
      exact ⟨_, hy, r⟩
    refine ⟨_, rfl, wpAny_letOwnedTupleGo_zip (s := { s with heap := h', toks := tk }) b1 fun h'' z'' sb => ?_⟩
    have hT2 : h''.get? s.heap.objs.size = some { cls := .type "tuple", data := .seq #[.str ⟨#[c]⟩ tc, u2] } := (sb.2 _ (Nat.ne_of_gt hzl)).trans b5
    have new : ObjOk X.prog X.w (upd H s.heap.objs.size (.tup [.str ⟨#[c]⟩, y])) h'' s.heap.objs.size (.tup [.str ⟨#[c]⟩, y]) :=
      ⟨by show 2 ≤ sizeLine; decide, [.str ⟨#[c]⟩ tc, u2], .cons ⟨tc, rfl⟩ (.cons ry .nil), ⟨_, hT2, rfl, _, rfl⟩⟩
    have I1 : Inv X pins σ (upd H s.heap.objs.size (.tup [.str ⟨#[c]⟩, y])) { s with heap := h'', toks := tk } :=
      I.turnedNew (t' := tk) (ch := [z, TI, TO, i1, i2]) (fun c o hb q => (sb.2 c (fun q' => hb (by simp [q']))).trans (hk c o (fun q' => hb (by simp [q'])) (fun q' => hb (by simp [q'])) (fun q' => hb (by simp [q'])) (fun q' => hb (by simp [q'])) q)) hf (Nat.le_refl _) new
    refine ⟨.ref s.heap.objs.size, _, I1, rfl, ⟨_, c, y, rfl, I.hok.fresh (Nat.le_refl _), rfl, hcx, fun l hl => by rw [I.tuple_inj hl hqy]; exact hy⟩, ⟨z'', ?_, ⟨Value.str ⟨#[c]⟩ tc, u2, ?_⟩, ?_, ?_, by omega, by omega⟩, fun c hcm => ?_⟩
    · exact (sb.2 _ D.TIz).trans (hk _ _ D.TIz D.TITO D.TIi1 D.TIi2 hTI)
    · exact (sb.2 _ D.TOz).trans b2
    · obtain ⟨o, ho, r⟩ := d1
      exact ⟨o, (sb.2 _ D.zi1.symm).trans ho, r⟩
    · exact d2.1.at fun o q => (sb.2 _ D.zi2.symm).trans q
    · have hlt : c < s.heap.objs.size := by
        simp only [List.mem_cons, List.not_mem_nil, or_false] at hcm
        rcases hcm with q | q | q | q | q <;> rw [q]
        · exact hzl
        · exact Heap.lt_size hTI
        · exact Heap.lt_size hTO
        · obtain ⟨_, e1, _⟩ := h1; exact Heap.lt_size e1
        · obtain ⟨_, e2, _⟩ := h2; exact Heap.lt_size e2
      rw [upd_ne (Nat.ne_of_lt hlt)]
      exact (hf c hcm).1
  done := by
    intro X hP hw hK hc i pins s σ H E I hf st hg
    subst hP hw hK
    obtain ⟨hz, hTI, ⟨x0, y0, hTO⟩, h1, h2, l1, l2⟩ := st
    obtain ⟨hend, ys, hqy, hn⟩ := hg
    obtain ⟨its, rv, p, _⟩ := I.tuple hqy
    have hl : its.length = n := by rw [← rv.length]; exact hn
    have hd : X.A.in1.handled = none := I.ok.hd hc
    have hne : b ≠ i2 := ti_ne h2 p
    have hs : its.toArray.size = n := by simpa using hl
    exact wpAny_pyNext_zipD2_end D (Draws.text hd i1 x t) (Draws.tuple hd i2 b hne its.toArray) hz hTI hTO h1 ⟨h2, p⟩ l1 (by omega) (by omega) fun h' tk hk => ⟨rfl, I.turnedL (t' := tk) (ch := [z, TI, TO, i1, i2]) (fun c o hb q =>
      hk c o (fun q' => hb (by simp [q'])) (fun q' => hb (by simp [q'])) (fun q' => hb (by simp [q'])) (fun q' => hb (by simp [q'])) q) hf⟩
  self := fun A i s Q E st h => wpAny_pyIter_zip st.1 h
theorem zsep {n b : Nat} (h : b < n) : ZipSep2 (n + 4) (n + 2) (n + 3) n (n + 1) [n] [n + 1, b] where
  TIz := Nat.ne_of_lt (by omega)
  TOz := Nat.ne_of_lt (by omega)
  TITO := Nat.ne_of_lt (by omega)
  TIi1 := Nat.ne_of_gt (by omega)
  mem1 := List.mem_cons_self
  zf1 := fun q => absurd (List.mem_singleton.mp q) (Nat.ne_of_gt (by omega))
  Tf1 := fun q => absurd (List.mem_singleton.mp q) (Nat.ne_of_gt (by omega))
  TIi2 := Nat.ne_of_gt (by omega)
  mem2 := List.mem_cons_self
  zf2 := fun q => by rcases List.mem_cons.mp q with e | q; exact absurd e (Nat.ne_of_gt (by omega)); exact absurd (List.mem_singleton.mp q) (Nat.ne_of_gt (by omega))
  Tf2 := fun q => by rcases List.mem_cons.mp q with e | q; exact absurd e (Nat.ne_of_gt (by omega)); exact absurd (List.mem_singleton.mp q) (Nat.ne_of_gt (by omega))
  sep1_2 := fun q => by rcases List.mem_cons.mp q with e | q; exact absurd e (Nat.ne_of_lt (by omega)); exact absurd (List.mem_singleton.mp q) (Nat.ne_of_gt (by omega))
  sep2_1 := fun q => absurd (List.mem_singleton.mp q) (Nat.ne_of_gt (by omega))
def iZipS (K : Fg) (ta : TA) : TI := fun σ H R => ta σ H fun vs H1 => ∃ x b ys, vs = [.str x, .ref b] ∧ SqT K H1 b ys ∧ R (ItzS K x b ys.length) H1
theorem pi_zipS {X : Cx} {e e2 : Expr} {ta : TA} {p pos tpos : Pos} {elts : List Expr} {kk : Nat} (hg : Gl X "zip") (hm : X.mg "zip" = none) (ha : PA X [e, e2] ta)
    (hs : starEach [e, e2] X.env = (false, eval e X.env) :: starEach [e2] X.env := by rfl) (hpl : (backTo pos (starEach [e2] X.env)).any (·.1) = false := by rfl) :
    PI X (.Tuple elts kk tpos) (.Call (.Name "zip" p) [e, e2] [] pos) (iZipS X.K ta) := by
  refine ⟨fun pins s σ H R I h => ?_⟩
  refine Call_ (ld_blt I hg hm PyProof.Rows.boot_zip (PyProof.Rows.callWith_type1 (thn (ha.run pos pins s σ H _ I h) fun us s1 ⟨vs, H1, I1, r1, q1⟩ => ?_) hs hpl))
  obtain ⟨x, b, ys, ex, hqy, q⟩ := q1
  subst ex
  cases r1 with
  | cons r rr =>
    cases rr with
    | cons r' rr =>
      cases rr
      obtain ⟨t, rfl⟩ := r
      cases r'
      obtain ⟨its, rv, p, _⟩ := I1.tuple hqy
      have lb : b < s1.heap.objs.size := by obtain ⟨o, ho, _⟩ := id p; exact Heap.lt_size ho
      refine zip_begins2 (begins_text x t) (begins_tuple b its.toArray) trivial p fun h' hz hTI hTO g1 g2 hsz hk => wpAny_pyIter_zip hz ?_
      have I2 : Inv X pins σ H1 { s1 with heap := h' } := I1.kept (t' := s1.toks) hk
      have fresh5 : ∀ c, c ∈ [s1.heap.objs.size + 4, s1.heap.objs.size + 2, s1.heap.objs.size + 3, s1.heap.objs.size, s1.heap.objs.size + 1] → FpOk X pins H1 c := fun c hcm => by
        have hle : s1.heap.objs.size ≤ c := by
          simp only [List.mem_cons, List.not_mem_nil, or_false] at hcm
          omega
        exact I1.fpOk hle (I1.hok.fresh hle)
      exact ⟨s1.heap.objs.size + 4, [s1.heap.objs.size + 4, s1.heap.objs.size + 2, s1.heap.objs.size + 3, s1.heap.objs.size, s1.heap.objs.size + 1], _, _, H1, rfl, I2, turn_zipS (t := t) (i1 := s1.heap.objs.size) (i2 := s1.heap.objs.size + 1) (TI := s1.heap.objs.size + 2) (TO := s1.heap.objs.size + 3) (zsep lb), ⟨hz, hTI, ⟨_, _, hTO⟩, ⟨_, g1, rfl, rfl⟩, ⟨_, g2, rfl, rfl⟩, Nat.zero_le _, Nat.zero_le _⟩, fresh5, q⟩

/-! ### d.values() as a value -/
def viewHO (v a : Addr) : HO := .ext fun h => h.get? v = some { cls := .type "dict_values", data := .fields #[.ref a] }
def tVals (td : TE) : TE := fun σ H Q => td σ H fun x H1 => ∃ a kvs, x = V.ref a ∧ H1 a = some (.dK kvs) ∧ ∀ v, H1 v = none → Q (.ref v) (upd H1 v (viewHO v a))
section
variable {X : Cx} {o : Expr} {apos mpos : Pos} {td : TE}
theorem pe_vals (hd : PE X o td) (hbase : attributeBase o "values" X.env (eval o X.env) = eval o X.env := by rfl) (hline : (apos.endLine == mpos.line) = true := by rfl) : PE X (.Call (.Attribute o "values" apos) [] [] mpos) (tVals td) := by
  refine ⟨fun pins s σ H Q I h => ?_⟩
  refine wpAny_Call_method0_late hbase hline (thn (hd.run pins s σ H _ I h) fun v s1 ⟨x, H1, I1, r1, a, kvs, ex, ha, q⟩ => ?_)
  subst ex
  obtain rfl : v = Value.ref a := r1
  obtain ⟨_, hsys, vs, rel, dof⟩ := dk_of I1.hok ha
  obtain ⟨ep, dat⟩ := dof.dictAt
  obtain ⟨ob, es, ho, ex, hdat, hko, hpr, hnd⟩ := dat
  refine ⟨"dict", "dict.values", F.plainAttrs_dict, F.slot_dict_values, F.type_dict_values, ⟨ob, ho, ex.1⟩, fun b e => ?_, Calls.callWith_builtin rfl (PySem.evalArgs_none ?_)⟩
  · cases e
    exact ⟨ob, ho, ex.2.1⟩
  refine call_meetsIn F.slot_dict_values ⟨ob, ho, ex.1⟩ F.entry_dict_values (F.args_dict_values_1 _) (meets_dict_values (mixKind X.prog X.w) a hsys) ⟨⟨vs, dof⟩, ?_⟩
  have k1 : ∀ b u, s1.heap.get? b = some u → (s1.heap.push { cls := .type "dict_values", data := .fields #[.ref a] }).get? b = some u := fun b u e => Heap.get?_push_of_some _ e
  have new : ObjOk X.prog X.w (upd H1 s1.heap.objs.size (viewHO s1.heap.objs.size a)) (s1.heap.push { cls := .type "dict_values", data := .fields #[.ref a] }) s1.heap.objs.size (viewHO s1.heap.objs.size a) :=
    ⟨Heap.get?_push_size _ rfl, ⟨_, Heap.get?_push_size _ rfl⟩, fun h1 h2 e k => k _ e⟩
  exact ⟨.ref _, _, I1.laid (t' := s1.toks) k1 (Nat.le_refl _) new, rfl, q _ (I1.hok.fresh (Nat.le_refl _))⟩
/-- the ints of a dict's values, by the view -/
theorem view_at {pins : List (Addr × Obj)} {s : Shared} {σ : L2.St} {H : Hp} (I : L2.Inv X pins σ H s) {v a : Addr} {kvs : List (Key × V)} {is : List Int} (hv : H v = some (viewHO v a)) (ha : H a = some (.dK kvs)) (hi : kvs.map (·.2) = is.map V.int) :
    ∃ vs ep, s.heap.get? v = some { cls := .type "dict_values", data := .fields #[.ref a] } ∧ s.heap.DictAt (mixKind X.prog X.w) a vs ep ∧ vs.length = is.length ∧ kvs.length ≤ sizeLine ∧ ∀ (i : Nat) (u : Value), (∃ k, vs[i]? = some (k, u)) → ∃ x t, is[i]? = some x ∧ u = Value.int x t := by
  obtain ⟨e, _, _⟩ := I.hok v _ hv
  obtain ⟨z, hsys, vs, rel, dof⟩ := dk_of I.hok ha
  obtain ⟨ep, dat⟩ := dof.dictAt
  refine ⟨vs, ep, e, dat, ?_, z, fun i u ⟨k, hk⟩ => ?_⟩
  · have e1 := congrArg List.length hi
    rw [List.length_map, List.length_map] at e1
    rw [← e1]
    exact (KV.length rel).symm
  · obtain ⟨x, h1, h2⟩ := KV.at' rel hk
    have e1 : (kvs.map (·.2))[i]? = some x := by rw [List.getElem?_map, h1] <;> rfl
    rw [hi, List.getElem?_map] at e1
    obtain ⟨j, hj, e2⟩ := Option.map_eq_some_iff.mp e1
    subst e2
    obtain ⟨t, e3⟩ := h2
    exact ⟨j, t, hj, e3⟩
/-- sum(d.values()) -/
def rSumV : List V → Hp → VK → Prop := fun vs H Q => ∃ (v a : Addr) (kvs : List (Key × V)) (is : List Int), vs = [V.ref v] ∧ H v = some (viewHO v a) ∧ H a = some (.dK kvs) ∧ kvs.map (·.2) = is.map V.int ∧ Q (.int is.sum) H
theorem preSum_getD (is : List Int) : ∀ n, n ≤ is.length → preSum (fun i => is.getD i 0) n = (is.take n).sum
  | 0, _ => by simp [preSum]
  | n + 1, h => by
    show preSum _ n + is.getD n 0 = _
    rw [preSum_getD is n (by omega), List.take_add_one, List.getElem?_eq_getElem (by omega), List.sum_append]
    simp [List.getD_eq_getElem?_getD, List.getElem?_eq_getElem (show n < is.length by omega)]
theorem cr_sumV (hc : X.calm = true) : CallR X (.builtin "sum") rSumV := by
  intro pins s σ H xs us Q I r h
  obtain ⟨v, a, kvs, is, rfl, hv, ha, hi, q⟩ := h
  obtain rfl := Vals.ref1 r
  obtain ⟨vs, ep, e, dat, hl, _, hval⟩ := view_at I hv ha hi
  refine call_sum_walkAnyS ?_
  obtain ⟨oI, St, hit, W, st⟩ := (PySem.W.kdl_values (prog := X.prog) (w := X.w) (knd := mixKind X.prog X.w) (d := a) (r := v) (kvs := vs) (ep := ep)).iter X.A.in1 s (I.ok.hd hc) ⟨⟨_, e, rfl, rfl⟩, dat⟩
  refine hit _ _ ⟨s.heap.objs.size, _, _, _, vs.length, _, _, fun i => is.getD i 0, rfl, W.toS, st, fun b hb => ?_, fun i u hu => ?_, fun s' t' hm => ?_⟩
  · show b < (s.heap.push oI).objs.size
    rw [Heap.size_push]
    rcases List.mem_cons.mp hb with e' | hb
    · rw [e']; exact Nat.lt_succ_self _
    · rw [List.mem_singleton.mp hb]; exact Nat.lt_succ_of_lt (by obtain ⟨ob, es, ho, _⟩ := id dat; exact Heap.lt_size ho)
  · obtain ⟨x, t, h1, h2⟩ := hval i u hu
    exact ⟨t, by rw [h2]; show Value.int x t = Value.int (is.getD i 0) t; rw [List.getD_eq_getElem?_getD, h1]; rfl⟩
  · have hk : ∀ b o, s.heap.get? b = some o → s'.heap.get? b = some o := fun b o e =>
      hm.heap b o (fun hI => absurd (Heap.lt_size e) (by rw [List.mem_singleton.mp hI]; exact Nat.lt_irrefl _)) (Heap.get?_push_of_some _ e)
    rw [Moved.eq_with hm]
    refine ⟨.int is.sum, H, I.kept hk, ⟨t', ?_⟩, q⟩
    rw [hl, preSum_getD is _ (Nat.le_refl _), List.take_length]
end

/-! ### sorted(d.values(), reverse=True) -/
section
variable {X : Cx}
def rSortedVR : List V → List V → Hp → VK → Prop := fun vs zs H Q => ∃ (v a : Addr) (kvs : List (Key × V)) (is : List Int), vs = [V.ref v] ∧ zs = [.bl true] ∧ H v = some (viewHO v a) ∧ H a = some (.dK kvs) ∧ kvs.map (·.2) = is.map V.int ∧
  ∀ (ns' : List Int) (p : Addr), ns'.Perm is → OrdB true ns' → H p = none → Q (.ref p) (upd H p (.lst (ns'.map V.int)))
theorem cr_sortedVR (hc : X.calm = true) : CallRK X (.builtin "sorted") [Str.ofString "reverse"] rSortedVR := by
  intro pins s σ H xs zs us ws Q I r rz h
  obtain ⟨v, a, kvs, is, rfl, rfl, hv, ha, hi, q⟩ := h
  obtain rfl := Vals.ref1 r
  obtain ⟨w1, rfl, e1⟩ := vals1 rz
  obtain rfl : w1 = Value.bool true := e1
  obtain ⟨vs, ep, e, dat, hl, hz, hval⟩ := view_at I hv ha hi
  have hz2 : vs.length ≤ sizeLine := by
    rw [hl]
    have := congrArg List.length hi
    rw [List.length_map, List.length_map] at this
    rw [← this]; exact hz
  refine call_function_entry_kw kind_sorted plain_sorted entry_sorted (PyProof.Rows.args_sorted_rev _ _) ?_
  unfold Builtin.«sorted»
  refine wpAny_bind (m := checkCount "sorted" 1 1 _) (wpAny_pure ?_)
  refine wpAny_bind (PySem.W.kdu_collect (A := X.A.in1) (PySem.W.kdl_values (prog := X.prog) (w := X.w) (knd := mixKind X.prog X.w) (d := a) (r := v) (kvs := vs) (ep := ep)) (I.ok.hd hc) ⟨⟨_, e, rfl, rfl⟩, dat⟩ hz2 fun h' tk acc hk hacc => ?_)
  have hal : acc.toList.length = is.length := by rw [Array.length_toList, hacc.1, hl]
  have hS : IntsAre acc.toList is := ints_each hal fun j u e => hval j u (hacc.2 j u (by rw [← Array.getElem?_toList]; exact e))
  have I1 : Inv X pins σ H { s with heap := h', toks := tk } := I.kept hk
  refine wpAny_bind (wpAny_newList ?_ (by rw [hal, ← hl]; exact hz2))
  have hoL : (h'.push (seqObj "list" acc.toList.toArray 0)).get? h'.objs.size = some (seqObj "list" acc.toList.toArray 0) := Heap.get?_push_size _ rfl
  show wpAny _ _ _ _ _ { s with heap := h'.push (seqObj "list" acc.toList.toArray 0), toks := tk }
  refine wpAny_bind (wpAny_holding (wpAny_call_entry_kw slot_list_sort ⟨_, hoL, rfl⟩ entry_list_sort ?_ (PyProof.Rows.args_list_sort_rev _ _)))
  refine SrtR.list_sort_ordR (b := true) SrtO.swo_int hoL (by rw [hal, ← hl]; exact hz2) (fun h2 => SrtO.ints_sortable hS h2) fun out h1 h2 => ⟨_, rfl, ?_⟩
  obtain ⟨ns', k1, k2, k3⟩ := SrtR.ints_outR (b := true) hS h1 h2
  obtain ⟨e', he'⟩ := PyProof.Rows.sortedHeap_at (vs := acc.toList) (out := out.toArray.reverse) hoL
  have hlen : (ns'.map V.int).length ≤ sizeLine := by
    rw [List.length_map, k2.length_eq, ← hl]
    exact hz2
  refine wpAny_pure ⟨_, rfl, .ref h'.objs.size, upd H h'.objs.size (.lst (ns'.map V.int)), I1.laid (t' := tk) (fun b u e => ?_) (Nat.le_refl _)
    (show ObjOk X.prog X.w _ _ _ (.lst (ns'.map V.int)) from ⟨hlen, out.toArray.reverse.toList, e', vals_of_ints k1, by rw [Array.toArray_toList]; exact he'⟩), rfl, q ns' _ k2 k3 (I1.hok.fresh (Nat.le_refl _))⟩
  have hb : b < h'.objs.size := Heap.lt_size e
  show (sortedHeap _ _ _ out.toArray.reverse).get? b = _
  rw [PyProof.Rows.sortedHeap_old (Nat.ne_of_lt hb) (by rw [size_push']; exact Nat.lt_succ_of_lt hb)]
  exact Heap.get?_push_of_some _ e
/-! ### sum(tuple) -/
def rSumT (K : Fg) : List V → Hp → VK → Prop := fun vs H Q => ∃ (a : Addr) (ns : List Int), vs = [V.ref a] ∧ SqT K H a (ns.map V.int) ∧ Q (.int ns.sum) H
theorem cr_sumT (hc : X.calm = true) : CallR X (.builtin "sum") (rSumT X.K) := by
  intro pins s σ H xs us Q I r h
  obtain ⟨a, ns, rfl, hs, q⟩ := h
  obtain ⟨its, rv, hl, _⟩ := I.tuple hs
  obtain rfl := Vals.ref1 r
  have hi := rv.ints
  obtain ⟨xs, hx⟩ := hi.allInts.items
  have hn : numsOf its.toArray.toList = ns := by rw [show its.toArray.toList = its from rfl, hi.numsOf]
  have hl' : s.heap.IsTuple a its.toArray := hl
  rw [hx] at hl' hn
  rw [nums_intItems] at hn
  refine PySem.W.ktm_sumG (I.ok.hd hc) hl' fun h' tk t' hk => ⟨.int ns.sum, H, I.kept hk, ⟨t', ?_⟩, q⟩
  rw [preSum_eq, List.take_of_length_le (by simp), hn]
/-! ### tuple * k, k from 1 on -/
theorem tuple_mul1 (l : Addr) (items : Array Value) (n : Nat) (dd : Option Addr) (sl : Array (Option Value)) (u : Tok) :
    Meets (Builtin.«tuple.__mul__» ⟨[.ref l, .int 1 u], []⟩) (fun _ R s => s.heap.get? l = some { cls := .type "tuple", dict := dd, data := .seq items n, slots := sl } ∧ R (.ok (.ret (Value.ref l))) s) :=
  .of_wp fun prog w A R s h => by
    obtain ⟨hp, g, d, tk, os⟩ := s
    obtain ⟨hl, h⟩ := h
    have f1 := AutoSeq1.idx_int
    have hT : (⟨hp, g, d, tk, os⟩ : Shared).TypeIs (.ref l) "tuple" := ⟨_, hl, rfl⟩
    wp_walk using wpAny_loadPart' hl
    exact ⟨_, rfl, h⟩
def rRepT1 (K : Fg) : R2 := fun x y H Q => ∃ l k xs, x = .ref l ∧ y = .int k ∧ SqT K H l xs ∧ xs ≠ [] ∧ 1 ≤ k ∧ k ≤ 1000 ∧ xs.length ≤ 1000 ∧ (k = 1 → Q (.ref l) H) ∧ (2 ≤ k → ∀ p, H p = none → Q (.ref p) (upd H p (.tup (List.replicate k.toNat xs).flatten)))
theorem op_repT1 : OpR X (binaryOp .Mult) (rRepT1 X.K) := by
  intro pins s σ H x y v u Q I rx ry h
  obtain ⟨l, k, xs, rfl, rfl, hT, hne, h1, h2, hz, q1, q2⟩ := h
  by_cases hk : k = 1
  · cases rx
    obtain ⟨t, rfl⟩ := ry
    subst hk
    obtain ⟨its, r, ⟨⟨cls, dd, data, sl⟩, ho, hc, n, hd⟩, hs⟩ := I.tuple hT
    simp only at hc hd
    subst hc hd
    exact wpAny_binaryOp_repeat_ref (T := "tuple") (U := "int") (by decide) ⟨_, ho, rfl⟩ (fun s' => typeIs_int s' 1 t) noFill_tuple_mul F.fills_int_mul F.slot_int_rmul repeat_tuple F.slot_int_index.lookup
      (call_meets F.slot_int_rmul (typeIs_int s 1 t) F.entry_int_rmul (F.args_int_rmul_2 _ _) (int_rmul_tuple 1 t l its.toArray n dd sl)
        ⟨ho, rfl, ⟨_, ho, rfl⟩, call_meets F.slot_tuple_mul ⟨_, ho, rfl⟩ F.entry_tuple_mul (F.args_tuple_mul_2 _ _) (tuple_mul1 l its.toArray n dd sl t) ⟨ho, .ref l, H, I, rfl, q1 rfl⟩⟩)
  · exact op_repT pins s σ H _ _ v u Q I rx ry ⟨l, k, xs, rfl, rfl, hT, hne, by omega, h2, hz, q2 (by omega)⟩
end
end B
/-! B: the layer over the rules of Bt; dicts that change -/
namespace B
open PySem L2
open PySem.W (Tup T3 T4 Datum DatumOrd)
open Evl (Ex)
section
variable {α β γ : Type} [Py α] [Py β] [Py γ] {K : Fg} {σ : SS} {W W' : Wd} {v : V} {te ta tb : TE} {ε : Ef}
theorem ro_cat {xs ys : List α} (hl : xs.length + ys.length ≤ 100000) : RO K rCat xs ys (xs ++ ys) := fun v u W1 ⟨a, vs, e, s, r⟩ ⟨b, us, e', s', r'⟩ Q k =>
  ⟨a, b, vs, us, e, e', W1.sub.el s, W1.sub.el s', Evl.sz_of (by rw [Reps.len r, Reps.len r']; exact hl), fun p hp =>
    k _ (W1.add p _) (W1.grow_add hp) ⟨p, _, rfl, upd_same, Reps.app (Reps.mono (exExt (W1.grow_add hp).b) r) (Reps.mono (exExt (W1.grow_add hp).b) r')⟩⟩
theorem reps_nil {H : Hp} {vs : List V} {xs : List α} (r : Reps K H vs xs) (h : vs = []) : xs = [] := by
  cases r with
  | nil => rfl
  | cons a b => cases h
theorem ro_catT {xs ys : Tup α} (hl : xs.items.length + ys.items.length ≤ 100000) : RO K (rCatA K) xs ys (Tup.mk (xs.items ++ ys.items)) := fun v u W1 ⟨a, vs, e, s, r⟩ ⟨b, us, e', s', r'⟩ Q k =>
  ⟨a, b, vs, us, e, e', SqT.of (W1.sub.et s), SqT.of (W1.sub.et s'), Evl.sz_of (by rw [Reps.len r, Reps.len r']; exact hl),
    fun h0 => k _ W1 (.refl _ _) ⟨b, us, rfl, s', by rw [reps_nil r h0]; exact r'⟩,
    fun _ h0 => k _ W1 (.refl _ _) ⟨a, vs, rfl, s, by rw [reps_nil r' h0, List.append_nil]; exact r⟩,
    fun _ _ p hp => k _ (W1.add p _) (W1.grow_add hp) ⟨p, _, rfl, upd_same, Reps.app (Reps.mono (exExt (W1.grow_add hp).b) r) (Reps.mono (exExt (W1.grow_add hp).b) r')⟩⟩
theorem rc_sumT {xs : Tup Int} : RC1 K (rSumT K) xs xs.items.sum := fun v W1 ⟨a, vs, e, s, r⟩ Q k => ⟨a, xs.items, by rw [e], by rw [← reps_int r]; exact SqT.of (W1.sub.et s), k _ W1 (.refl _ _) rfl⟩
theorem reps_rep {H : Hp} {vs : List V} {xs : List α} (r : Reps K H vs xs) : ∀ n : Nat, Reps K H (List.replicate n vs).flatten (List.replicate n xs).flatten
  | 0 => .nil
  | n + 1 => by
    rw [List.replicate_succ, List.replicate_succ, List.flatten_cons, List.flatten_cons]
    exact Reps.app r (reps_rep r n)
theorem ro_repT {xs : Tup α} {n : Int} (hne : xs.items ≠ []) (h1 : 1 ≤ n) (h2 : n ≤ 1000) (hl : xs.items.length ≤ 1000) : RO K (rRepT1 K) xs n (Tup.mk (List.replicate n.toNat xs.items).flatten) := fun v u W1 ⟨a, vs, e, s, r⟩ ru Q k =>
  ⟨a, n, vs, e, ru, SqT.of (W1.sub.et s), fun z => hne (reps_nil r z), h1, h2, by rw [Reps.len r]; exact hl, fun h => k _ W1 (.refl _ _) ⟨a, vs, rfl, s, by
      subst h
      simpa using r⟩, fun _ p hp => k _ (W1.add p _) (W1.grow_add hp) ⟨p, _, rfl, upd_same, Reps.mono (exExt (W1.grow_add hp).b) (reps_rep r _)⟩⟩
theorem rc_tupL {xs : List α} : RC1 K (rTupleO K) xs (Tup.mk xs) := fun v W1 ⟨a, vs, e, s, r⟩ Q k => ⟨a, vs, by rw [e], .inl ⟨SqL.of (W1.sub.el s), fun l hl =>
  k _ (W1.add l (.tup vs)) (W1.grow_add hl) ⟨l, vs, rfl, upd_same, Reps.mono (exExt (W1.grow_add hl).b) r⟩⟩⟩
/-- zip of two tuples -/
theorem ei_zipT {xs : Tup α} {ys : Tup β} (ha : EvR ε K ta σ W xs) (hb : EvR ε K tb σ W ys) : EvJ ε K (RZ.iZipA K (tCons ta (tCons tb tNil))) σ W (xs.items.zip ys.items) := fun W1 g1 R k => ha W1 g1 _ fun v W2 g2 r1 => hb W2 (g1.trans g2) _ fun u W3 g3 r2 => by
  obtain ⟨a, vs, e, s, r⟩ := rep_s g3 r1
  obtain ⟨b, us, e', s', r'⟩ := r2
  refine ⟨a, b, vs, us, by rw [e, e'], .inr ⟨SqT.of (W3.sub.et s), SqT.of (W3.sub.et s'), k (RZ.ItzT K a b) W3 (g2.trans g3) ⟨fun i W' o hi => ?_, fun i W' v H'' o hi ⟨T, x, y, e1, hT, e2, e3, e4⟩ => ?_, fun i W' o hi => ?_⟩⟩⟩
  · have hi' : i < xs.items.length ∧ i < ys.items.length := by simp at hi; omega
    obtain ⟨x, hx⟩ : ∃ x, xs.items[i]? = some x := ⟨xs.items[i], by simp [hi'.1]⟩
    obtain ⟨y, hy⟩ : ∃ x, ys.items[i]? = some x := ⟨ys.items[i], by simp [hi'.2]⟩
    obtain ⟨v, h1, _⟩ := Reps.get' r hx
    obtain ⟨u, h2, _⟩ := Reps.get' r' hy
    exact ⟨vs, us, v, u, SqT.of (W'.sub.et (o.b _ _ s)), SqT.of (W'.sub.et (o.b _ _ s')), h1, h2⟩
  · obtain ⟨p, h1, h2⟩ := Reps.get r (e3 vs (SqT.of (W'.sub.et (o.b _ _ s))))
    obtain ⟨q, h3, h4⟩ := Reps.get r' (e4 us (SqT.of (W'.sub.et (o.b _ _ s'))))
    refine ⟨(p, q), W'.add T _, e2.symm, W'.grow_add hT, ?_, T, x, y, e1, upd_same, rep_g (W'.grow_add hT) (rex o.b h2), rep_g (W'.grow_add hT) (rex o.b h4)⟩
    rw [List.getElem?_zip_eq_some]
    exact ⟨h1, h3⟩
  · refine ⟨vs, us, SqT.of (W'.sub.et (o.b _ _ s)), SqT.of (W'.sub.et (o.b _ _ s')), ?_⟩
    rw [Reps.len r, Reps.len r']
    simp at hi
    omega
def signs (x : Str) : List Str := x.cps.toList.map fun c => ⟨#[c]⟩
/-- zip of a text and a tuple -/
theorem ei_zipS {x : Str} {ys : Tup β} (ha : EvR ε K ta σ W x) (hb : EvR ε K tb σ W ys) : EvJ ε K (iZipS K (tCons ta (tCons tb tNil))) σ W ((signs x).zip ys.items) := fun W1 g1 R k => ha W1 g1 _ fun v W2 g2 r1 => hb W2 (g1.trans g2) _ fun u W3 g3 r2 => by
  have e : v = .str x := r1
  obtain ⟨b, us, e', s', r'⟩ := r2
  have hl := Reps.len r'
  have hs : (signs x).length = x.cps.size := by simp [signs]
  refine ⟨x, b, us, by rw [e, e'], SqT.of (W3.sub.et s'), k (ItzS K x b us.length) W3 (g2.trans g3) ⟨fun i W' o hi => ?_, fun i W' v H'' o hi ⟨T, c, y, e1, hT, e2, e3, e4⟩ => ?_, fun i W' o hi => ?_⟩⟩
  · rw [List.length_zip, hs] at hi
    exact ⟨by omega, by omega, us, SqT.of (W'.sub.et (o.b _ _ s')), rfl⟩
  · obtain ⟨q, h3, h4⟩ := Reps.get r' (e4 us (SqT.of (W'.sub.et (o.b _ _ s'))))
    refine ⟨(⟨#[c]⟩, q), W'.add T _, e2.symm, W'.grow_add hT, ?_, T, _, y, e1, upd_same, rfl, rep_g (W'.grow_add hT) (rex o.b h4)⟩
    rw [List.getElem?_zip_eq_some]
    refine ⟨?_, h3⟩
    unfold signs
    rw [List.getElem?_map, Array.getElem?_toList, e3]
    rfl
  · rw [List.length_zip, hs] at hi
    exact ⟨by omega, us, SqT.of (W'.sub.et (o.b _ _ s')), rfl⟩
theorem kreps_ints {κ : Type} [PyKey κ] {H : Hp} {ks : List (Key × V)} {kv : List (κ × Int)} (r : KReps K H ks kv) : ks.map (·.2) = (kv.map (·.2)).map V.int := by
  induction r with
  | nil => rfl
  | cons a b ih => rw [List.map_cons, List.map_cons, List.map_cons, ih, show _ = _ from a.2]
/-- sorted(d.values(), reverse=True): what falls with the same items -/
theorem ev_sortedVR {κ : Type} [PyKey κ] {d : Dict κ Int} {ys : List Int} (h : EvD ε K te σ W d) (hp : ys.Perm (d.kv.map (·.2))) (ho : ys.Pairwise (· ≥ ·)) : EvR ε K (tCKw rSortedVR (tCons (tVals te) tNil) (tCons (tC (.bl true)) tNil)) σ W ys := fun W1 g1 Q k => h W1 g1 _ fun v W2 g2 ⟨a, ks, e, hB, hH, r⟩ =>
  ⟨a, ks, e, hH, fun w hw => by
    have ne : a ≠ w := fun z => by rw [z, hw] at hH; cases hH
    have gw := W2.grow_put (o := viewHO w a) hw
    refine ⟨w, a, ks, d.kv.map (·.2), rfl, rfl, upd_same, (upd_ne ne).trans hH, kreps_ints r, fun ns' p h1 h2 hp0 => ?_⟩
    have e2 : ns' = ys := (h1.trans hp.symm).eq_of_pairwise (fun a b _ _ h h' => Int.le_antisymm h' h) (show ns'.Pairwise (· ≥ ·) from h2) ho
    subst e2
    exact k _ ((W2.put w _ (W2.free hw)).add p _) ((g2.and gw).and (Wd.grow_add _ hp0)) ⟨p, _, rfl, upd_same, int_reps _⟩⟩
theorem ev_sumV {κ : Type} [PyKey κ] {d : Dict κ Int} (h : EvD ε K te σ W d) : EvR ε K (tCB rSumV (tCons (tVals te) tNil)) σ W (d.kv.map (·.2)).sum := fun W1 g1 Q k => h W1 g1 _ fun v W2 g2 ⟨a, ks, e, hB, hH, r⟩ =>
  ⟨a, ks, e, hH, fun w hw => by
    have ne : a ≠ w := fun z => by rw [z, hw] at hH; cases hH
    exact ⟨w, a, ks, d.kv.map (·.2), rfl, upd_same, (upd_ne ne).trans hH, kreps_ints r, k _ (W2.put w _ (W2.free hw)) (g2.and (W2.grow_put hw)) rfl⟩⟩
end
/-- what is new may change unseen -/
theorem Md.fresh {S : List Addr} {W W1 W2 : Wd} {d : Addr} (a : Md S W W1) (b : Md (d :: S) W1 W2) (f : W.H d = none) : Md S W W2 := ⟨a.b.trans b.b, fun x o h1 h2 => b.l x o (a.b x o h1) (a.l x o h1 h2), fun x o h1 h2 => b.o x o (fun z => by
    rcases List.mem_cons.mp z with e | z
    · rw [e, f] at h2; cases h2
    · exact h1 z) (a.o x o h1 h2), fun x hx => by rw [b.m x (a.n x hx), a.m x hx], fun x hx => b.d x (a.d x hx), fun x hx => b.n x (a.n x hx)⟩
/-! ### dicts that change -/
structure DMut {κ α : Type} [PyKey κ] [Py α] (K : Fg) (W : Wd) (d : Addr) (kv : List (κ × α)) : Prop where
  b : W.B d = none
  ex : ∃ ks, W.H d = some (.dK ks) ∧ KReps K W.B ks kv
section
variable {κ α : Type} [DecidableEq κ] [PyKey κ] [Py α] {K : Fg} {W W' : Wd} {d : Addr} {kv : List (κ × α)} {ε : Ef} {σ : SS} {S : List Addr} {ty tv tx te : TE}
theorem DMut.nt (m : DMut K W d kv) : Nt W.H d := by
  obtain ⟨ks, e, _⟩ := m.ex
  exact .k e
theorem DMut.g (m : DMut K W d kv) (g : Md S W W') (h : d ∉ S) : DMut K W' d kv := by
  obtain ⟨ks, e, r⟩ := m.ex
  have := g.mut h e m.b
  exact ⟨this.2, ks, this.1, KReps.mono (exExt g.b) r⟩
theorem DMut.gr (m : DMut K W d kv) (g : Grow W W') : DMut K W' d kv := m.g g (by simp)
theorem DMut.s (m : DMut K W d kv) (g : Stp ε W W') (h : d ∉ ε.S) : DMut K W' d kv := m.g g.md h
theorem DMut.new (W : Wd) {d : Addr} (h : W.H d = none) : DMut K (W.put d (.dK []) (W.free h)) d ([] : List (κ × α)) := ⟨W.free h, [], upd_same, .nil⟩
/-- d[k] = v -/
theorem s_dput {D : Ends} {i : Nat} {k : κ} {x : α} (hd : σ[i]? = some (some (.ref d))) (m : DMut K W d kv) (hv : EvR pur K tv σ W x) (hk : EvP pur ty σ W (fun u _ => u = kV (PyKey.key k))) (hl : kv.length < 100000)
    (q : ∀ W', Md [d] W W' → On W W' → DMut K W' d (kput kv k x) → D.nx σ W'.H) : sDPut (tVar i) ty tv D σ W.H := hv W (.start trivial) _ fun v W1 g1 rv => ⟨.ref d, hd, hk W1 g1 _ fun u W2 g2 e => by
  have g := (g1.trans g2).pure
  obtain ⟨ks, e1, r⟩ := (m.gr g).ex
  have b := (m.gr g).b
  refine ⟨d, _, rfl, .inl ⟨ks, PyKey.key k, e1, e, by rw [KReps.len r]; exact Evl.sz_lt hl, rfl⟩, q (W2.put d _ b) ((Grow.s g).trans (md_put b)) (g.on.trans (md_put b).on) ⟨b, _, upd_same, KReps.put r k (rep_s g2 rv)⟩⟩⟩
theorem ek_of [Py κ] {k : κ} (hv : ∀ {H : Hp} {v : V}, rep K H v k → v = kV (PyKey.key k)) (h : EvR ε K te σ W k) : EvP ε te σ W (fun u _ => u = kV (PyKey.key k)) := fun W1 g1 Q q => h W1 g1 _ fun v W2 g2 r => q v W2 g2 (hv r)
theorem ek_int {n : Int} (h : EvR ε K te σ W n) : EvP ε te σ W (fun u _ => u = kV (PyKey.key n)) := ek_of (fun r => r) h
theorem ek_str {n : Str} (h : EvR ε K te σ W n) : EvP ε te σ W (fun u _ => u = kV (PyKey.key n)) := ek_of (fun r => r) h
theorem klk {H : Hp} {ks : List (Key × V)} (r : KReps K H ks kv) (k : κ) : (klook kv k = none ∧ valV ks (PyKey.key k) = none) ∨ ∃ x v, klook kv k = some x ∧ valV ks (PyKey.key k) = some v ∧ rep K H v x := by
  cases e : klook kv k with
  | none => exact .inl ⟨rfl, r.none e⟩
  | some x =>
    obtain ⟨v, h1, h2⟩ := r.some e
    exact .inr ⟨x, v, rfl, h1, h2⟩
/-- d.get(k, x) -/
theorem ev_dget2 {i : Nat} {k : κ} {x : α} (hd : σ[i]? = some (some (.ref d))) (m : DMut K W d kv) (hS : d ∉ ε.S) (hk : EvP ε ty σ W (fun u _ => u = kV (PyKey.key k))) (hx : EvR ε K tx σ W x) : EvR ε K (tDGet2 (tVar i) ty tx) σ W ((klook kv k).getD x) := fun W1 g1 Q q => by
  obtain ⟨ks, e1, r⟩ := (m.s g1 hS).ex
  refine ⟨_, hd, d, rfl, .inl ⟨ks, .inl e1⟩, hk W1 g1 _ fun u W2 g2 eu => hx W2 (g1.trans g2) _ fun w W3 g3 rw => ?_⟩
  obtain ⟨ks, e3, r⟩ := (m.s ((g1.trans g2).trans g3) hS).ex
  rcases klk r k with ⟨h1, h2⟩ | ⟨y, v, h1, h2, h3⟩
  · exact ⟨none, .inl ⟨ks, _, .inl e3, eu, h2.symm⟩, q _ W3 (g2.trans g3) (by rw [h1]; exact rw)⟩
  · exact ⟨some v, .inl ⟨ks, _, .inl e3, eu, h2.symm⟩, q _ W3 (g2.trans g3) (by rw [h1]; exact h3)⟩
/-- it shall stay -/
theorem DMut.fix (m : DMut K W d kv) : ∃ o, ∃ h : W.H d = some o, DictAt K (W.fix d o h) (.ref d) ⟨kv⟩ ∧ Ex W.B (W.fix d o h).B ∧ ∀ W0 S, Md S W0 W → W0.H d = none → Md S W0 (W.fix d o h) := by
  obtain ⟨ks, e, r⟩ := m.ex
  exact ⟨_, e, ⟨d, ks, rfl, upd_same, e, KReps.mono (exExt (ex_fix e m.b)) r⟩, ex_fix e m.b, fun W0 S g f => md_fix g e m.b f⟩
end
/-! ### dicts with tuples of ints as keys -/
structure TMut (W : Wd) (d : Addr) (ks : List (List Key)) : Prop where
  b : W.B d = none
  ex : ∃ kvs, W.H d = some (.dT kvs) ∧ kvs.map (·.1) = ks
section
variable {W W' : Wd} {d : Addr} {ks : List (List Key)} {S : List Addr} {K : Fg} {σ : SS} {ty tv te : TE} {ε : Ef}
theorem TMut.nt (m : TMut W d ks) : Nt W.H d := by
  obtain ⟨k, e, _⟩ := m.ex
  exact ⟨_, e, fun _ z => by cases z⟩
theorem TMut.g (m : TMut W d ks) (g : Md S W W') (h : d ∉ S) : TMut W' d ks := by
  obtain ⟨k, e, r⟩ := m.ex
  have := g.mut h e m.b
  exact ⟨this.2, k, this.1, r⟩
theorem TMut.gr (m : TMut W d ks) (g : Grow W W') : TMut W' d ks := m.g g (by simp)
def tput (ks : List (List Key)) (k : List Key) : List (List Key) := if (ks.any fun x => decide (x = k)) = true then ks else ks ++ [k]
theorem tput_keys (kvs : List (List Key × V)) (k : List Key) (v : V) : (putK kvs k v).map (·.1) = tput (kvs.map (·.1)) k := by
  unfold putK tput
  have : (kvs.any fun kv => decide (kv.1 = k)) = ((kvs.map (·.1)).any fun x => decide (x = k)) := by
    rw [List.any_map]
    rfl
  by_cases h : (kvs.any fun kv => decide (kv.1 = k)) = true
  · rw [if_pos h, if_pos (this ▸ h), List.map_map]
    refine List.map_congr_left fun q _ => ?_
    show (if q.1 = k then (q.1, v) else q).1 = q.1
    split <;> rfl
  · rw [if_neg h, if_neg (fun z => h (this ▸ z)), List.map_append]
    rfl
theorem tput_mem {ks : List (List Key)} {k j : List Key} : j ∈ tput ks k ↔ j ∈ ks ∨ j = k := by
  unfold tput
  split
  · rename_i h
    obtain ⟨x, hx, e⟩ := List.any_eq_true.mp h
    have e' : x = k := of_decide_eq_true e
    exact ⟨.inl, fun z => z.elim id fun e => by rw [e, ← e']; exact hx⟩
  · simp
theorem tput_len (ks : List (List Key)) (k : List Key) : (tput ks k).length ≤ ks.length + 1 := by
  unfold tput
  split <;> simp
def ikey (xs : List Int) : List Key := xs.map Sum.inl
theorem ikey_vals {xs : List Int} : (ikey xs).map kV = xs.map V.int := by
  unfold ikey
  rw [List.map_map]
  rfl
theorem s_tput {α : Type} [Py α] {D : Ends} {i : Nat} {k : Tup Int} {x : α} (hd : σ[i]? = some (some (.ref d))) (m : TMut W d ks) (hv : EvR pur K tv σ W x) (hk : EvR pur K ty σ W k) (hl : ks.length ≤ 1000000)
    (q : ∀ W', Md [d] W W' → On W W' → TMut W' d (tput ks (ikey k.items)) → D.nx σ W'.H) : sDPut (tVar i) ty tv D σ W.H := hv W (.start trivial) _ fun v W1 g1 rv => ⟨.ref d, hd, hk W1 g1 _ fun u W2 g2 ⟨b, vs, e, s, r⟩ => by
  have g := (g1.trans g2).pure
  obtain ⟨kvs, e1, r1⟩ := (m.gr g).ex
  have bd := (m.gr g).b
  have len : kvs.length = ks.length := by rw [← r1, List.length_map]
  refine ⟨d, _, rfl, .inr ⟨kvs, ikey k.items, b, e1, e, ?_, by rw [len, PySem.sizeLine_eq]; omega, rfl⟩, q (W2.put d _ bd) ((Grow.s g).trans (md_put bd)) (g.on.trans (md_put bd).on) ⟨bd, _, upd_same, by rw [tput_keys, r1]⟩⟩
  rw [ikey_vals, ← reps_int r]
  exact W2.sub.et s⟩
abbrev rListDT : List V → Hp → VK → Prop := fun xs H Q => ∃ d kvs, xs = [V.ref d] ∧ Rd H d (.dT kvs) ∧ ∀ p bs, H p = none → IsKeys H kvs bs → Q (.ref p) (upd H p (.lst (bs.map V.ref)))
/-- list(d) -/
theorem ev_listDT {i : Nat} {xs : List (Tup Int)} (hd : σ[i]? = some (some (.ref d))) (m : TMut W d ks) (hx : ks = xs.map fun t => ikey t.items) : EvR pur K (tCB rListDT (tCons (tVar i) tNil)) σ W xs := fun W1 g1 Q q => by
  obtain ⟨kvs, e1, r1⟩ := (m.gr g1.pure).ex
  refine ⟨_, hd, d, kvs, rfl, .inl e1, fun p bs hp hk => ?_⟩
  have gt := W1.grow_tup bs
  have hp' : (W1.tup bs).H p = none := hp
  refine q _ ((W1.tup bs).add p _) (.of (gt.trans (Wd.grow_add _ hp'))) ⟨p, _, rfl, upd_same, ?_⟩
  have rB : Reps K (W1.tup bs).B (bs.map V.ref) xs := by
    subst hx
    clear q e1
    have main : ∀ (kvs : List (List Key × V)) (bs' : List Addr) (xs : List (Tup Int)), (∀ b ∈ bs', b ∈ bs) → IsKeys W1.H kvs bs' → kvs.map (·.1) = xs.map (fun t => ikey t.items) → Reps K (W1.tup bs).B (bs'.map V.ref) xs := by
      intro kvs
      induction kvs with
      | nil =>
        intro bs' xs _ hk hm
        cases hk
        cases xs with
        | nil => exact .nil
        | cons x xs => cases hm
      | cons kv kvs ih =>
        intro bs' xs hs hk hm
        cases hk with
        | cons h1 h2 =>
          cases xs with
          | nil => cases hm
          | cons x xs =>
            rw [List.map_cons, List.map_cons] at hm
            injection hm with hm1 hm2
            refine .cons ⟨_, _, rfl, Wd.tup_at h1 (hs _ List.mem_cons_self), ?_⟩ (ih _ _ (fun b hb => hs b (List.mem_cons_of_mem _ hb)) h2 hm2)
            rw [hm1, ikey_vals]
            exact int_reps _
    exact main kvs bs xs (fun _ h => h) hk r1
  exact Reps.mono (exExt (Wd.grow_add _ hp').b) rB
end
/-! ### [e for x in ..] where e is drawn -/
section
variable {α β : Type} [Py α] [Py β] {K : Fg} {σ : SS} {W W' : Wd} {v : V} {te : TE} {wi : TI} {ε : Ef}
/-- what is walked, not known whole -/
def EvIQ {α : Type} [Py α] (ε : Ef) (K : Fg) (wi : TI) (σ : SS) (W : Wd) (P : List α → Prop) : Prop :=
  ∀ W1, Stp ε W W1 → ∀ R : It → Hp → Prop, (∀ J S W2 xs, P xs → Stp ε W1 W2 → S W2 → (∀ W W', S W → Stp ε W W' → S W') → Src K J S xs → R J W2.H) → wi σ W1.H R
theorem EvI.q {xs : List α} (h : EvI ε K wi σ W xs) : EvIQ ε K wi σ W (fun ys => ys = xs) := fun W1 g1 R k => h W1 g1 R fun J S W2 g2 s sg src => k J S W2 xs rfl g2 s sg src
theorem ei_rngQ {P : Int → Prop} (h : EvP ε te σ W (fun v _ => ∃ n, v = .int n ∧ P n)) (hb : ∀ n, P n → n ≤ 1000000000 ∧ -1000000000 ≤ n) : EvIQ (α := Int) ε K (iRng1 (tCons te tNil)) σ W (fun xs => ∃ n, P n ∧ xs = rng 0 n.toNat) := fun W1 g1 R k => h W1 g1 _ fun v W2 g2 ⟨n, e, p⟩ =>
  ⟨n, by rw [e], by have := hb n p; omega, by have := hb n p; omega, k _ (fun _ => True) W2 _ ⟨n, p, rfl⟩ g2 trivial (fun _ _ _ _ => trivial) src_range⟩
theorem en_lcQ {j : Nat} {P : List α → Prop} {R : β → Prop} (hi : EvIQ ε K wi σ W P) (hl : ∀ xs, P xs → xs.length ≤ 100000) (he : ∀ (x : α) v W', Stp ε W W' → rep K W'.B v x → EvP ε te ((wipe σ [j]).set j (some v)) W' (fun u W2 => ∃ y : β, R y ∧ rep K W2.B u y)) :
    ∀ W1, Stp ε W W1 → ∀ Q : VK, (∀ p vs (xs : List α) (ys : List β) W2, P xs → Stp ε W1 W2 → W1.H p = none → W2.B p = none → W2.H p = some (.lst vs) → Reps K W2.B vs ys → ys.length = xs.length → (∀ y ∈ ys, R y) → Q (.ref p) W2.H) → tLc wi (gName j) tYes te [j] σ W1.H Q := fun W1 g1 Q k =>
  hi W1 g1 _ fun J S W2 xs hP g2 s2 sg src D hD => by
    have hl := hl xs hP
    have DS : D ∉ ε.S := Ef.off g2.i hD
    refine ⟨fun i m H => m = xs.length - i ∧ i ≤ xs.length ∧ ∃ Wi acc ys, Wi.H = H ∧ Stp ε W2 Wi ∧ Wi.B D = none ∧ Wi.H D = some (.lst acc) ∧ Reps K Wi.B acc ys ∧ ys.length = i ∧ ∀ y ∈ ys, R y, ⟨xs.length, rfl, Nat.zero_le _, W2.put D (.lst []) (W2.free hD), [], ([] : List β), rfl, ⟨md_mut (.refl _ _) (W2.free hD) hD, i_put DS g2.i _⟩, W2.free hD, upd_same, .nil, rfl, by simp⟩, ?_⟩
    rintro i m H ⟨rfl, hle, Wi, acc, ys, rfl, gi, bD, hDi, rs, hyl, hR⟩
    have si : S Wi := sg _ _ s2 gi
    have hacc : acc.length ≤ i := by rw [Reps.len rs, hyl]; exact Nat.le_refl _
    by_cases hlt : i < xs.length
    · refine .inr ⟨src.go i Wi si hlt, fun H => i + 1 ≤ xs.length ∧ ∃ Wi acc ys, Wi.H = H ∧ Stp ε W2 Wi ∧ Wi.B D = none ∧ Wi.H D = some (.lst acc) ∧ Reps K Wi.B acc (ys : List β) ∧ ys.length = i + 1 ∧ ∀ y ∈ ys, R y, fun H' h' => ⟨_, by omega, rfl, h'⟩, fun v H'' hy => ?_⟩
      obtain ⟨x, W3, rfl, g3', hx, r⟩ := src.yld i Wi v H'' si hlt hy
      have g3 : Stp ε Wi W3 := gi.rf.and g3'
      have m3 := g3.md.mut DS hDi bD
      refine ⟨wipe1, ?_⟩
      refine et_yes (ε := ε) W3 g3.rf _ fun W4 g4 => ?_
      rw [if_pos rfl]
      have m4 := g4.md.mut DS m3.1 m3.2
      refine he x v W4 ((((g1.trans g2).trans gi).trans g3).trans g4) (rep_s g4 r) W4 g4.rf _ fun u W5 g5 ⟨y, hy1, r5⟩ => ?_
      have m5 := g5.md.mut DS m4.1 m4.2
      refine ⟨acc, m5.1, Evl.sz_lt (by omega), hlt, W5.put D _ m5.2, acc ++ [u], ys ++ [y], rfl, ⟨md_mut (((gi.trans g3).trans g4).trans g5).md m5.2 hD, i_put DS g5.i _⟩, m5.2, upd_same, Reps.snoc (Reps.mono (exExt ((g3.trans g4).trans g5).md.b) rs) r5, by rw [List.length_append, hyl]; rfl, fun z hz => ?_⟩
      rcases List.mem_append.mp hz with h | h
      · exact hR z h
      · rw [List.mem_singleton.mp h]; exact hy1
    · have e : i = xs.length := by omega
      subst e
      exact .inl ⟨src.stop _ Wi si (Nat.le_refl _), k D acc xs ys Wi hP (g2.trans gi) (by
        cases e : W1.H D with
        | none => rfl
        | some o => exact absurd hD (g2.md.d D (by rw [e]; exact fun z => by cases z))) bD hDi rs hyl hR⟩
theorem ep_lcQ {j : Nat} {P : List α → Prop} {R : β → Prop} (hi : EvIQ ε K wi σ W P) (hl : ∀ xs, P xs → xs.length ≤ 100000) (he : ∀ (x : α) v W', Stp ε W W' → rep K W'.B v x → EvP ε te ((wipe σ [j]).set j (some v)) W' (fun u W2 => ∃ y : β, R y ∧ rep K W2.B u y)) :
    EvP ε (tLc wi (gName j) tYes te [j]) σ W (fun v W' => ∃ (xs : List α) (ys : List β), P xs ∧ ys.length = xs.length ∧ (∀ y ∈ ys, R y) ∧ rep K W'.B v ys) := fun W1 g1 Q k =>
  en_lcQ hi hl he W1 g1 Q fun p vs xs ys W2 hP g2 f n e r hly hR => k _ (W2.fix p _ e) (g2.fix f g1.i e n) ⟨xs, ys, hP, hly, hR, p, vs, rfl, upd_same, Reps.mono (exExt (ex_fix e n)) r⟩
/-- m + a drawn number -/
theorem ep_add {m : Int} {P : Int → Prop} (h : EvP ε te σ W (fun v _ => ∃ n, v = .int n ∧ P n)) : EvP ε (tOp oAdd (tC (.int m)) te) σ W (fun v _ => ∃ n, v = .int (m + n) ∧ P n) := fun W1 g1 Q k => h W1 g1 _ fun v W2 g2 ⟨n, e, p⟩ =>
  ⟨m, n, rfl, e, k _ W2 g2 ⟨n, rfl, p⟩⟩
/-- a drawn number == m -/
theorem ep_eq (K0 : Fg) {m : Int} {P : Int → Prop} (h : EvP ε te σ W (fun v _ => ∃ n, v = .int n ∧ P n)) : EvP ε (tOp rEq te (tC (.int m))) σ W (fun v _ => ∃ b : Bool, v = .bl b) := fun W1 g1 Q k => h W1 g1 _ fun v W2 g2 ⟨n, e, p⟩ => by
  subst e
  exact ro_eqI (K := K0) _ _ W2 rfl rfl Q fun w W3 g3 r => k w W3 (g2.and g3) ⟨_, r⟩
/-- a test that is drawn -/
def EvTQ (ε : Ef) (tt : TT) (σ : SS) (W : Wd) : Prop := ∀ W1, Stp ε W W1 → ∀ Q : Bool → Hp → Prop, (∀ b W2, Stp ε W1 W2 → Q b W2.H) → tt σ W1.H Q
theorem etq (h : EvP ε te σ W (fun v _ => ∃ b : Bool, v = .bl b)) : EvTQ ε (tTest te) σ W := fun W1 g1 Q k => h W1 g1 _ fun v W2 g2 ⟨b, e⟩ => ⟨b, e, k b W2 g2⟩
theorem q_whenQ {D : Ends} {t : TT} {tu tz : TS} (h : EvTQ ε t σ W) (s : ε.I W) (h1 : ∀ W', Stp ε W W' → tu { D with nx := tz D } σ W'.H) (h2 : ∀ W', Stp ε W W' → tz D σ W'.H) : tSeq (tIfS t tu tNext) tz D σ W.H := h W (.start s) _ fun b W' g => by
  cases b with
  | true => exact h1 W' g
  | false => exact h2 W' g
/-- both ways meet again in R -/
theorem q_whenJ {D : Ends} {t : TT} {tu tz : TS} (R : Wd → Prop) (h : EvTQ ε t σ W) (s : ε.I W) (k : ∀ W', R W' → tz D σ W'.H) (h1 : ∀ W', Stp ε W W' → (∀ W'', R W'' → tz D σ W''.H) → tu { D with nx := tz D } σ W'.H) (h2 : ∀ W', Stp ε W W' → R W') : tSeq (tIfS t tu tNext) tz D σ W.H :=
  q_whenQ h s (fun W' g => h1 W' g k) (fun W' g => k W' (h2 W' g))
end
end B
/-! B: == of own instances, methods called by keywords alone -/
namespace B
open PySem L2 PySem.Spec PyProof.Rows
section
variable {X : Cx} {CX : CXT} {k : Nat} {f C : Addr} {fd : FuncData} {ps ks : List Str} {sp : Sp} {E : XK} {o : Expr} {ta : TE} {tk : TA} {kws : List Keyword} {m : Str} {apos pos : Pos}
/-- x == y, two instances of the class at C, whose own __eq__ keeps the promise sp -/
def rInsEq (C : Addr) (sp : Sp) (E : XK) : R2 := fun x y H Q => ∃ a b dx dy fs gs, x = .ref a ∧ y = .ref b ∧ H a = some (.ins C dx fs) ∧ H b = some (.ins C dy gs) ∧ sp [x, y] H Q E
theorem op_insEq (F : FnOk X.prog X.w X.K X.mg X.base CX k f fd ps sp) (hr : Room k X.A) (hm : Meth X.K C "__eq__" f) (hb : Binds X.K fd ps []) (hx : Passes CX X E) : OpR X (compareOp .Eq) (rInsEq C sp E) := by
  intro pins s σ H x y v u Q I rx ry h
  obtain ⟨a, b, dx, dy, fs, gs, rfl, rfl, ha, hb', q⟩ := h
  cases (show v = Value.ref a from rx)
  cases (show u = Value.ref b from ry)
  obtain ⟨mA, J, _⟩ := ins_get I.hok ha
  obtain ⟨mB, J', _⟩ := ins_get I.hok hb'
  obtain ⟨od, J, _⟩ := J.look
  obtain ⟨od', J', _⟩ := J'.look
  obtain ⟨m, hF⟩ := I.fr
  show wpAny (model X.prog X.w) X.A (richCompare .Eq (.ref a) (.ref b)) (EP X pins σ Q) X.xe s
  refine PySem.W.cmp_K (op := .Eq) (tb := .ref C) hr.units0 hF I.ok.mod.kin J J'.type (by simp [PySem.W.notFirst]) hm.at_ hm.fn ?_
  refine wpAny_mono (run_fn (us := [.ref a, .ref b]) (vs := [.ref a, .ref b]) (dvs := []) F hr hb .nil hx I (.cons rfl (.cons rfl .nil)) q) (fun w s' z => ?_) fun _ _ x => x
  obtain ⟨z', H', I', rz, qz⟩ := z
  exact SlX.cmpback rz ⟨z', H', I', rz, qz⟩
/-- how a method binds keywords alone, self ahead -/
def KwM (K : Fg) (fd : FuncData) (ps ks : List Str) (l : List Nat) : Prop := ∀ (s : Shared) (o : Value) (ws : List Value), K.In s.heap → ws.length = ks.length → BindsTo s fd ⟨[o], ks.zip ws⟩ (ps.zip (o :: perm l ws))
theorem kwm_mk {K : Fg} {x qual : Str} {st : Stmt} {f : Addr} {fd : FuncData} {ps ks : List Str} {l : List Nat} (F : Fun K x qual st f fd)
    (h : ∀ (kV doc pm : Value) (an : Option Addr) (cdv ct : Value) (o : Value) (us : List Value), us.length = ks.length → bindArgs (PySem.W.fnOf x qual (defArgs st) (defBody st) (defScope st) .none kV doc pm an cdv ct) ⟨[o], ks.zip us⟩ = pure (ps.zip (o :: perm l us))) : KwM K fd ps ks l := by
  obtain ⟨oc, od, kV, doc, pm, an, cdv, ct, osl, rfl, lk, hcd⟩ := F.ex
  exact fun s o ws _ hl => .of_eq (h kV doc pm an cdv ct o ws hl)
def tMethKw (C : Addr) (m : Str) (sp : Sp) (l : List Nat) (n : Nat) (E : XK) (ta : TE) (tk : TA) : TE := fun σ H Q => ta σ H fun x H1 => ∃ a dx fs, x = .ref a ∧ H1 a = some (.ins C dx fs) ∧ fs.lookup m = none ∧ tk σ H1 fun zs H2 => zs.length = n ∧ sp (x :: perm l zs) H2 Q E
theorem pe_methKw {l : List Nat} {n : Nat} {pl : Sem Bool} (he : PE X o ta) (c : Cls X.K C) (hm : Meth X.K C m f) (F : FnOk X.prog X.w X.K X.mg X.base CX k f fd ps sp) (hr : Room k X.A) (hb : KwM X.K fd ps ks l) (hx : Passes CX X E)
    (hkw : PK X kws tk) (hall : (backToKw pos (keywordEach kws X.env)).all (·.1.isSome) = true := by rfl) (hks : (backToKw pos (keywordEach kws X.env)).filterMap (·.1) = ks := by rfl)
    (hn : n = ks.length := by rfl) (hpl : ((backTo pos (starEach [] X.env)).any (·.1) || (backToKw pos (keywordEach kws X.env)).any (·.1.isNone)) = false := by rfl)
    (ht : eval (.Call (.Attribute o m apos) [] kws pos) X.env = (do
      let ov ← eval o X.env
      standAt apos.atName
      let (f, first) ← holding [ov] (getMethod ov m pl)
      callWith pos f first (backTo pos (starEach [] X.env)) (backToKw pos (keywordEach kws X.env))) := by rfl) :
    PE X (.Call (.Attribute o m apos) [] kws pos) (tMethKw C m sp l n E ta tk) := by
  subst hn
  refine ⟨fun pins s σ H Q I h => ?_⟩
  refine PySem.W.methodCall_KW (pl := pl) (thn (he.run pins s σ H _ I h) fun u s1 ⟨x, H1, I1, rx, a, dx, fs, ex, ea, lk, q⟩ => ?_) ht
  subst ex
  obtain rfl : u = Value.ref a := rx
  refine getmeth_ok I1 ea c hm lk ?_
  refine PySem.W.callWith_KW0 (first := [.ref a]) (h₀ := X.base) I.ok.mod.kin hm.kp hall (thn (hkw.run pos pins s1 σ H1 _ I1 q) fun ws s2 ⟨zs, H2, I2, rz, hl, q2⟩ => ⟨I2.kIn, ?_⟩) hpl
  rw [hks]
  have r2 : Vals (V.ref a :: perm l zs) (Value.ref a :: perm l ws) := .cons rfl (perm_rel l rz)
  refine wpAny_call (codeAny_mono (F.run X.A X.stack s2 H2 ⟨[.ref a], ks.zip ws⟩ (Value.ref a :: perm l ws) (V.ref a :: perm l zs) Q E hr I2.env0 (hb s2 (.ref a) ws I2.kIn (by rw [← rz.length]; exact hl)) r2 q2) fun r s' hq => ?_)
  cases r with
  | error e => exact hx pins σ H2 s2 e s' I2 hq
  | ok fl =>
    cases fl with
    | ret u => exact I2.after hq
    | next => exact False.elim hq
    | brk => exact False.elim hq
    | cont => exact False.elim hq
end
/-- what is asked of a class whose instances have a dict; isinstance of itself -/
structure ClsI (K : Fg) (C : Addr) : Prop where
  cl : Cls K C
  ha : PySem.W.findIn K (.ref C) "__class__" = some (some (.builtin "object.__class__"))
  hn : PySem.W.specialIn K (.builtin "object.__class__") "__get__" = some (some (.builtin "getset_descriptor.__get__"))
  ht : PySem.W.takesIn K (.builtin "object.__class__") = some true
  hm : PySem.W.mroIn K C (.type "object") = some true
  ki : PySem.W.kitOne K (.ref C) (.ref C) = some true
theorem ClsI.ty {K : Fg} {C a dx : Addr} {H : Hp} {fs : List (Str × V)} (c : ClsI K C) (e : H a = some (.ins C dx fs)) : TyX K H (.ref a) (.ref C) := .base (.ins e c.cl c.ha c.hn c.ht c.hm)
/-- isinstance of an own instance -/
theorem rc_isi_own {K : Fg} {C a dx : Addr} {H : Hp} {Q : VK} {fs : List (Str × V)} (c : ClsI K C) (e : H a = some (.ins C dx fs)) (q : Q (.bl true) H) : rIsi K [.ref a, .ref C] H Q := ⟨.ref a, .ref C, .ref C, .ref C, true, rfl, .own C, c.ty e, c.ki, q⟩
/-! ### enumerate(tuple) -/
theorem enumT_new (t : Addr) (items : Array Value) :
    Meets (Builtin.«enumerate.__new__» ⟨[.type "enumerate", .ref t], []⟩) (fun _ R s => s.heap.IsTuple t items ∧
      R (.ok (.ret (.ref (s.heap.objs.size + 1)))) { s with heap := (s.heap.push { cls := .type "tuple_iterator", data := .fields #[.ref t, .int 0 0] }).push { cls := .type "enumerate", data := .fields #[.none, .bool false, .ref s.heap.objs.size, rawInt 0, .none, .none] } }) :=
  .of_wp fun prog w A R s h => by
    obtain ⟨hp, g, d, tk, os⟩ := s
    obtain ⟨h1, h⟩ := h
    have hsub := sub_enumerate
    have hz : (hp.push { cls := .type "tuple_iterator", data := .fields #[.ref t, .int 0 0] }).objs.size = hp.objs.size + 1 := Heap.size_push ..
    have q1 : ∀ {A' : Around} {E : Value → Shared → Prop} {Q : Value → Shared → Prop}, Q (.ref hp.objs.size) ⟨hp.push { cls := .type "tuple_iterator", data := .fields #[.ref t, .int 0 0] }, g, d, tk, os⟩ → wpAny (model prog w) A' (pyIter (.ref t)) Q E ⟨hp, g, d, tk, os⟩ :=
      fun q => wpAny_pyIter_tuple (s := ⟨hp, g, d, tk, os⟩) h1 q
    have h' : ∃ v, Fin.done (Flow.ret (Value.ref (hp.push { cls := .type "tuple_iterator", data := .fields #[.ref t, .int 0 0] }).objs.size)) = Fin.done (Flow.ret v) ∧ R (.ok (.ret v)) ⟨(hp.push { cls := .type "tuple_iterator", data := .fields #[.ref t, .int 0 0] }).push { cls := .type "enumerate", data := .fields #[.none, .bool false, .ref hp.objs.size, rawInt 0, .none, .none] }, g, d, tk, os⟩ := ⟨_, rfl, by rw [hz]; exact h⟩
    wp_walk using q1
    refine wpAny_stack_any fun st => wpAny_pure ?_
    split
    · rename_i c _ _ _ _ _
      cases (c == Value.type "enumerate")
      · wp_walk using q1
        exact h'
      · wp_walk using q1
        exact h'
    · wp_walk using q1
      exact h'
def IteT (K : Fg) (a : Addr) (n : Nat) : It :=
  ⟨fun i H => i < n ∧ ∃ xs : List V, SqT K H a xs ∧ xs.length = n, fun i H v H' => ∃ T x, v = .ref T ∧ H T = none ∧ H' = upd H T (.tup [.int (i : Nat), x]) ∧ ∀ xs, SqT K H a xs → xs[i]? = some x,
    fun i H => n ≤ i ∧ ∃ xs : List V, SqT K H a xs ∧ xs.length = n⟩
def EtTn (a e it : Addr) (n i : Nat) (h : Heap) : Prop := (∃ old, IsEnum h e it ((i : Nat) : Int) old) ∧ h.IsTupleIter it a i ∧ e ≠ it ∧ e ≠ a ∧ i ≤ n
theorem turn_enumT {P : Program} {w : World} {K : Fg} {elts : List Expr} {kk : Nat} {tpos : Pos} (a e it : Addr) (n : Nat) :
    Turn P w K (.Tuple elts kk tpos) (IteT K a n) [e, it] e (EtTn a e it n) where
  mem := by simp
  obj := fun i h st b hb => by
    obtain ⟨⟨old, he⟩, ⟨o, ho, hc, hd⟩, _⟩ := st
    simp only [List.mem_cons, List.not_mem_nil, or_false] at hb
    rcases hb with z | z <;> rw [z]
    · exact ⟨_, he, fun v q => nomatch q⟩
    · exact ⟨o, ho, fun v q => by rw [hd] at q; cases q⟩
  keep := fun i h h' st k => let ⟨⟨old, he⟩, hi, hne⟩ := st; ⟨⟨old, k e (by simp) _ he⟩, hi.at fun o q => k it (by simp) o q, hne⟩
  item := by
    intro X hP hw hK hc i pins s σ H E I hf st hg
    subst hP hw hK
    obtain ⟨⟨old, he⟩, hit, hne, hea, hle⟩ := st
    obtain ⟨hlt, xs, hq, hn⟩ := hg
    obtain ⟨its, rv, p, hz⟩ := I.tuple hq
    have hl : its.length = n := by rw [← rv.length]; exact hn
    have hel : e < s.heap.objs.size := Heap.lt_size he
    have hil : it < s.heap.objs.size := by obtain ⟨_, q, _⟩ := hit; exact Heap.lt_size q
    have hef : e ∉ [it, a] := by simp [hne, hea]
    refine wpAny_pyNext_enum_itemD (Draws.tuple (show X.A.in1.handled = none from I.ok.hd hc) it a (ti_ne hit p) its.toArray) he ⟨hit, p⟩ (by simpa [hl] using hlt) hne hef fun u h' tk hu ho hit' hT hsz hk => ?_
    have hx : xs[i]? = some (xs[i]'(by omega)) := List.getElem?_eq_getElem (by omega)
    obtain ⟨u', e3, ru⟩ := rv.get hx
    have e2 : its[i]? = some u := by simpa using hu
    rw [e2] at e3
    cases e3
    refine ⟨_, rfl, wpAny_letOwnedTupleGo_enum (s := { s with heap := h', toks := tk + 1 }) ho fun h'' he' sb => ?_⟩
    have hT2 : h''.get? s.heap.objs.size = some { cls := .type "tuple", data := .seq #[.int i tk, u] } := (sb.2 _ (Nat.ne_of_gt hel)).trans hT
    have new : ObjOk X.prog X.w (upd H s.heap.objs.size (.tup [.int (i : Nat), xs[i]])) h'' s.heap.objs.size (.tup [.int (i : Nat), xs[i]]) :=
      ⟨by show 2 ≤ sizeLine; decide, [.int i tk, u], .cons ⟨_, rfl⟩ (.cons ru .nil), ⟨_, hT2, rfl, _, rfl⟩⟩
    have I1 : Inv X pins σ (upd H s.heap.objs.size (.tup [.int (i : Nat), xs[i]])) { s with heap := h'', toks := tk + 1 } :=
      I.turnedNew (ch := [e, it]) (fun b ob hb q => (sb.2 b (fun z => hb (by simp [z]))).trans (hk b ob (fun z => hb (by simp [z])) (fun z => hb (by simp [z])) q)) hf (Nat.le_refl _) new
    refine ⟨.ref s.heap.objs.size, _, I1, rfl, ⟨_, xs[i], rfl, I.hok.fresh (Nat.le_refl _), rfl, fun ys hy => by rw [I.tuple_inj hy hq]; exact hx⟩, ⟨⟨u, ?_⟩, hit'.1.at fun o q => (sb.2 it (Ne.symm hne)).trans q, hne, hea, by omega⟩, fun b hb => ?_⟩
    · have e1 : ((i + 1 : Nat) : Int) = (i : Int) + 1 := by omega
      rw [e1]; exact he'
    · have hb' : b < s.heap.objs.size := by
        simp only [List.mem_cons, List.not_mem_nil, or_false] at hb
        rcases hb with z | z <;> rw [z]
        · exact hel
        · exact hil
      rw [upd_ne (Nat.ne_of_lt hb')]
      exact (hf b hb).1
  done := by
    intro X hP hw hK hc i pins s σ H E I hf st hg
    subst hP hw hK
    obtain ⟨⟨old, he⟩, hit, hne, hea, hle⟩ := st
    obtain ⟨hge, xs, hq, hn⟩ := hg
    obtain ⟨its, rv, p, hz⟩ := I.tuple hq
    have hl : its.length = n := by rw [← rv.length]; exact hn
    obtain ⟨f0, f1, f2, f3, f4, f5⟩ := hf it (by simp)
    have hi : i = its.toArray.size := by simp; omega
    subst hi
    exact wpAny_pyNext_enum_endD (Draws.tuple (show X.A.in1.handled = none from I.ok.hd hc) it a (ti_ne hit p) its.toArray) he ⟨hit, p⟩ fun h' eb => ⟨rfl, I.turned (t' := s.toks) (fun b o hb q => eb b o hb q) f0 f1 f3 f4 f5⟩
  self := fun A i s Q E st h => let ⟨⟨_, he⟩, _⟩ := st; wpAny_pyIter_enum he h
def iEnumT (K : Fg) (ta : TA) : TI := fun σ H R => ta σ H fun vs H1 => ∃ a xs, vs = [.ref a] ∧ SqT K H1 a xs ∧ R (IteT K a xs.length) H1
theorem pi_enumT {X : Cx} {e : Expr} {ta : TA} {p pos tpos : Pos} {elts : List Expr} {kk : Nat} (hg : Gl X "enumerate") (hm : X.mg "enumerate" = none) (ha : PA X [e] ta) (hs : starEach [e] X.env = [(false, eval e X.env)] := by rfl) :
    PI X (.Tuple elts kk tpos) (.Call (.Name "enumerate" p) [e] [] pos) (iEnumT X.K ta) := by
  refine ⟨fun pins s σ H R I h => ?_⟩
  refine Call_ (ld_blt I hg hm boot_enumerate (PyProof.Rows.callWith_type1 (thn (ha.run pos pins s σ H _ I h) fun us s1 ⟨vs, H1, I1, r1, q1⟩ => ?_) hs rfl))
  obtain ⟨a, xs, ex, hq, q⟩ := q1
  subst ex
  cases r1 with
  | cons r rr =>
    cases rr
    cases r
    obtain ⟨its, rv, p', hz⟩ := I1.tuple hq
    have la : a < s1.heap.objs.size := by obtain ⟨o, ho, _⟩ := id p'; exact Heap.lt_size ho
    refine callType_new F.called_enumerate (by decide) (F.typeCall_enumerate_1 _) (F.newCall_enumerate_1 _) (fun obj => F.args_object_init_2 obj _) F.entry_enumerate_new (enumT_new a its.toArray) ⟨p', ?_⟩
    have hz : (s1.heap.push { cls := .type "tuple_iterator", data := .fields #[.ref a, .int 0 0] }).objs.size = s1.heap.objs.size + 1 := Heap.size_push ..
    have he : IsEnum ((s1.heap.push { cls := .type "tuple_iterator", data := .fields #[.ref a, .int 0 0] }).push { cls := .type "enumerate", data := .fields #[.none, .bool false, .ref s1.heap.objs.size, rawInt 0, .none, .none] }) (s1.heap.objs.size + 1) s1.heap.objs.size 0 .none := by
      have := Heap.get?_push_size (s1.heap.push { cls := .type "tuple_iterator", data := .fields #[.ref a, .int 0 0] }) (o := { cls := .type "enumerate", data := .fields #[.none, .bool false, .ref s1.heap.objs.size, rawInt 0, .none, .none] }) rfl
      rw [hz] at this; exact this
    refine ⟨⟨_, he, rfl⟩, wpAny_pyIter_enum he ?_⟩
    have hk : ∀ b o, s1.heap.get? b = some o → ((s1.heap.push { cls := .type "tuple_iterator", data := .fields #[.ref a, .int 0 0] }).push { cls := .type "enumerate", data := .fields #[.none, .bool false, .ref s1.heap.objs.size, rawInt 0, .none, .none] }).get? b = some o := fun b o x => Heap.get?_push_of_some _ (Heap.get?_push_of_some _ x)
    have I2 : Inv X pins σ H1 { s1 with heap := (s1.heap.push { cls := .type "tuple_iterator", data := .fields #[.ref a, .int 0 0] }).push { cls := .type "enumerate", data := .fields #[.none, .bool false, .ref s1.heap.objs.size, rawInt 0, .none, .none] } } := I1.kept (t' := s1.toks) hk
    refine ⟨s1.heap.objs.size + 1, [s1.heap.objs.size + 1, s1.heap.objs.size], _, _, H1, rfl, I2, turn_enumT a (s1.heap.objs.size + 1) s1.heap.objs.size xs.length, ⟨⟨.none, he⟩, ⟨_, Heap.get?_push_of_some _ (Heap.get?_push_size _ rfl), rfl, rfl⟩, Nat.succ_ne_self _, Nat.ne_of_gt (Nat.lt_succ_of_lt la), Nat.zero_le _⟩, fun b hb => ?_, q⟩
    have hle : s1.heap.objs.size ≤ b := by
      simp only [List.mem_cons, List.not_mem_nil, or_false] at hb
      rcases hb with z | z <;> rw [z]
      · exact Nat.le_succ _
      · exact Nat.le_refl _
    exact I1.fpOk hle (I1.hok.fresh hle)
open PySem.W (Tup)
theorem ei_enumT {α : Type} [Py α] {K : Fg} {σ : SS} {W : Wd} {te : TE} {ε : Ef} {xs : Tup α} (h : EvR ε K te σ W xs) : EvJ ε K (iEnumT K (tCons te tNil)) σ W ((rng 0 xs.items.length).zip xs.items) := fun W1 g1 R k => h W1 g1 _ fun v W2 g2 ⟨a, vs, e, s, r⟩ => by
  have hl := Reps.len r
  refine ⟨a, vs, by rw [e], SqT.of (W2.sub.et s), k (IteT K a vs.length) W2 g2 ⟨fun i W' o hi => ?_, fun i W' v H'' o hi ⟨T, x, e1, hT, e2, e3⟩ => ?_, fun i W' o hi => ?_⟩⟩
  · rw [List.length_zip, rng_len] at hi
    exact ⟨by omega, vs, SqT.of (W'.sub.et (o.b _ _ s)), rfl⟩
  · rw [List.length_zip, rng_len] at hi
    obtain ⟨y, h1, h2⟩ := Reps.get r (e3 vs (SqT.of (W'.sub.et (o.b _ _ s))))
    refine ⟨((i : Int), y), W'.add T _, e2.symm, W'.grow_add hT, ?_, T, .int (i : Nat), x, e1, upd_same, rfl, rep_g (W'.grow_add hT) (rex o.b h2)⟩
    rw [List.getElem?_zip_eq_some]
    exact ⟨by rw [rng_get (by omega)]; simp, h1⟩
  · rw [List.length_zip, rng_len] at hi
    exact ⟨by omega, vs, SqT.of (W'.sub.et (o.b _ _ s)), rfl⟩
/-! ### chains of comparisons -/
def tTest3 (r1 r2 r3 : R2) (ta tb tc td : TE) : TT := fun σ H Q => ta σ H fun x H1 => tb σ H1 fun y H2 => r1 x y H2 fun p H3 => ∃ k, p = .bl k ∧
  (if k = true then tc σ H3 fun z H4 => r2 y z H4 fun p H5 => ∃ k, p = .bl k ∧ (if k = true then td σ H5 fun u H6 => r3 z u H6 fun p H7 => ∃ k, p = .bl k ∧ Q k H7 else Q false H5) else Q false H3)
theorem pt_chain3 {X : Cx} {a b c d : Expr} {pos : Pos} {o1 o2 o3 : CmpOp} {r1 r2 r3 : R2} {ta tb tc td : TE} (h1 : OpR X (compareOp o1) r1) (h2 : OpR X (compareOp o2) r2) (h3 : OpR X (compareOp o3) r3) (ha : PE X a ta) (hb : PE X b tb) (hc : PE X c tc) (hd : PE X d td)
    (hm : lastMarks [o1, o2, o3] [b, c, d] = false := by with_unfolding_all rfl) : PT X (.Compare a [o1, o2, o3] [b, c, d] pos) (tTest3 r1 r2 r3 ta tb tc td) := by
  refine ⟨fun pins s σ H Q I h => ?_⟩
  refine isTrue_chain (thn (ha.run pins s σ H _ I h) fun v s1 ⟨x, H1, I1, g1, q1⟩ => test_link (thn (hb.run pins s1 σ H1 _ I1 q1) fun u s2 ⟨y, H2, I2, g2, q2⟩ =>
    thn (h1 pins s2 σ H2 x y v u _ I2 g1 g2 q2) fun d s3 ⟨z, H3, I3, g3, k, e, q3⟩ => ?_)) hm
  subst e
  cases g3
  refine wpAny_truthy_bool ?_
  cases k with
  | false => exact ite_ff ⟨H3, I3, q3⟩
  | true =>
    refine ite_tt (test_link (thn (hc.run pins s3 σ H3 _ I3 q3) fun w' s4 ⟨z', H4, I4, g4, q4⟩ => thn (h2 pins s4 σ H4 y z' u w' _ I4 g2 g4 q4) fun d' s5 ⟨z2, H5, I5, g5, k2, e2, q5⟩ => ?_))
    subst e2
    cases g5
    refine wpAny_truthy_bool ?_
    cases k2 with
    | false => exact ite_ff ⟨H5, I5, q5⟩
    | true =>
      refine ite_tt (test_last (thn (hd.run pins s5 σ H5 _ I5 q5) fun w6 s6 ⟨z6, H6, I6, g6, q6⟩ => thn (h3 pins s6 σ H6 z' z6 w' w6 _ I6 g4 g6 q6) fun d7 s7 ⟨z7, H7, I7, g7, k3, e3, q7⟩ => ?_))
      subst e3
      cases g7
      exact wpAny_truthy_bool ⟨H7, I7, q7⟩
section
variable {α β γ δ : Type} [Py α] [Py β] [Py γ] [Py δ] {K : Fg} {σ : SS} {W : Wd} {ta tb tc td : TE} {r1 r2 r3 : R2} {ε : Ef} {x : α} {y : β} {z : γ} {u : δ} {b1 b2 b3 : Bool}
/-- a op b op c as a value -/
theorem ev_chain (ha : EvR ε K ta σ W x) (hb : EvR ε K tb σ W y) (hc : EvR ε K tc σ W z) (h1 : RO K r1 x y b1) (h2 : RO K r2 y z b2) : EvR ε K (tChain r1 r2 ta tb tc) σ W (b1 && b2) := fun W1 g1 Q k =>
  ha W1 g1 _ fun vx W2 g2 rx => hb W2 (g1.trans g2) _ fun vy W3 g3 ry => h1 vx vy W3 (rep_s g3 rx) ry _ fun w W4 g4 rw => ⟨b1, rw, by
    have g14 := (g1.trans g2).trans (g3.and g4)
    cases b1 with
    | false => rw [if_neg Bool.false_ne_true]; exact k _ W4 ((g2.trans g3).and g4) rfl
    | true =>
      rw [if_pos rfl]
      exact hc W4 g14 _ fun vz W5 g5 rz => h2 vy vz W5 (rep_s g5 (rep_g g4 ry)) rz _ fun w' W6 g6 rw' => k w' W6 (((g2.trans (g3.and g4)).trans g5).and g6) rw'⟩
theorem et_chain3 (ha : EvR ε K ta σ W x) (hb : EvR ε K tb σ W y) (hc : EvR ε K tc σ W z) (hd : EvR ε K td σ W u) (h1 : RO K r1 x y b1) (h2 : RO K r2 y z b2) (h3 : RO K r3 z u b3) : EvT ε (tTest3 r1 r2 r3 ta tb tc td) σ W (b1 && (b2 && b3)) := fun W1 g1 Q k =>
  ha W1 g1 _ fun vx W2 g2 rx => hb W2 (g1.trans g2) _ fun vy W3 g3 ry => h1 vx vy W3 (rep_s g3 rx) ry _ fun w W4 g4 rw => ⟨b1, rw, by
    have g14 := (g1.trans g2).trans (g3.and g4)
    cases b1 with
    | false => rw [if_neg Bool.false_ne_true]; exact k W4 ((g2.trans g3).and g4)
    | true =>
      rw [if_pos rfl]
      exact hc W4 g14 _ fun vz W5 g5 rz => h2 vy vz W5 (rep_s g5 (rep_g g4 ry)) rz _ fun w' W6 g6 rw' => ⟨b2, rw', by
        have g16 := g14.trans (g5.and g6)
        cases b2 with
        | false => rw [if_neg Bool.false_ne_true]; exact k W6 (((g2.trans (g3.and g4)).trans g5).and g6)
        | true =>
          rw [if_pos rfl]
          exact hd W6 g16 _ fun vu W7 g7 ru => h3 vz vu W7 (rep_s g7 (rep_g g6 rz)) ru _ fun w8 W8 g8 rw8 => ⟨b3, rw8, k W8 ((((g2.trans (g3.and g4)).trans (g5.and g6)).trans g7).and g8)⟩⟩⟩
end
abbrev oIsB : R2 := fun x y H Q => ∃ a b, x = .bl a ∧ y = .bl b ∧ Q (.bl (decide (a = b))) H
abbrev oNotIsB : R2 := fun x y H Q => ∃ a b, x = .bl a ∧ y = .bl b ∧ Q (.bl (!decide (a = b))) H
theorem ro_isB {K : Fg} {a b : Bool} : RO K oIsB a b (decide (a = b)) := ro_val fun v u _ rv ru Q k => ⟨a, b, rv, ru, k _ rfl⟩
theorem ro_notIsB {K : Fg} {a b : Bool} : RO K oNotIsB a b (!decide (a = b)) := ro_val fun v u _ rv ru Q k => ⟨a, b, rv, ru, k _ rfl⟩
end B
/-! B: fields of own instances; max of a list; slices by places -/
namespace B
open PySem L2
open PySem.W (Tup T3 T4 Datum DatumOrd)
open Evl (Ex)
section
variable {α : Type} [Py α] {K : Fg} {C x : Addr} {W W' : Wd} {σ : SS} {i : Nat} {f : Str} {v : V} {y : α} {fs : List (Str × V)} {dx : Addr} {tv : TE} {ε : Ef}
/-- o.f -/
theorem ev_fld (c : Cls K C) (n : NoAttr K C f) (hd : σ[i]? = some (some (.ref x))) (hb : W.B x = none) (hh : W.H x = some (.ins C dx fs)) (hS : x ∉ ε.S) (hl : fs.lookup f = some v) (r : rep K W.B v y) : EvR ε K (tFld K (tVar i) f) σ W y := fun W1 g1 Q k => by
  have m := g1.md.mut hS hh hb
  exact ⟨_, hd, x, C, dx, fs, v, rfl, m.1, c, n, hl, k v W1 g1.rf (rep_s g1 r)⟩
/-- o.f = v -/
theorem s_fld {D : Ends} (c : Cls K C) (n : NoAttr K C f) (hd : σ[i]? = some (some (.ref x))) (hb : W.B x = none) (hh : W.H x = some (.ins C dx fs)) (hl : fs.length < 1000) (hv : EvR pur K tv σ W y)
    (q : ∀ v W', Md [x] W W' → On W W' → W'.B x = none → W'.H x = some (.ins C dx (putF f v fs)) → rep K W'.B v y → D.nx σ W'.H) : sFld K (tVar i) tv f D σ W.H := hv W (.start trivial) _ fun v W1 g1 rv => by
  have m := g1.pure.mut (by simp) hh hb
  exact ⟨_, hd, x, C, dx, fs, rfl, m.1, c, n, hl, q v (W1.put x _ m.2) ((Grow.s g1.pure).trans (md_put m.2)) (g1.on.trans (md_put m.2).on) m.2 upd_same rv⟩
theorem q_fld {D : Ends} {tz : TS} (c : Cls K C) (n : NoAttr K C f) (hd : σ[i]? = some (some (.ref x))) (hb : W.B x = none) (hh : W.H x = some (.ins C dx fs)) (hl : fs.length < 1000) (hv : EvR pur K tv σ W y)
    (q : ∀ v W', Md [x] W W' → On W W' → W'.B x = none → W'.H x = some (.ins C dx (putF f v fs)) → rep K W'.B v y → tz D σ W'.H) : tSeq (sFld K (tVar i) tv f) tz D σ W.H := s_fld (D := { D with nx := tz D }) c n hd hb hh hl hv q
/-- isinstance(o, C) of an instance of C -/
theorem ev_isOwn (c : ClsI K C) (hd : σ[i]? = some (some (.ref x))) (hb : W.B x = none) (hh : W.H x = some (.ins C dx fs)) (hS : x ∉ ε.S) : EvR ε K (tCB (rIsi K) (tCons (tVar i) (tCons (tC (.ref C)) tNil))) σ W true := fun W1 g1 Q k => by
  have m := g1.md.mut hS hh hb
  refine ⟨_, hd, ?_⟩
  show rIsi K [.ref x, .ref C] W1.H Q
  exact rc_isi_own c m.1 (k _ W1 g1.rf rfl)
/-- max(xs) -/
theorem rc_max {xs : List Int} {m : Int} (h1 : m ∈ xs) (h2 : ∀ y ∈ xs, y ≤ m) : RC1 K (rMax K) xs m := fun v W1 ⟨a, vs, e, s, r⟩ Q k => ⟨a, xs, by rw [e], by rw [← reps_int r]; exact SqL.of (W1.sub.el s), List.length_pos_of_mem h1, fun m' h3 h4 => by
  have : m' = m := Int.le_antisymm (h2 m' h3) (h4 m h1)
  rw [this]
  exact k _ W1 (.refl _ _) rfl⟩
end
theorem cut_to {α : Type} {xs : List α} {n : Nat} (h : n ≤ xs.length) : cutL xs none (some (n : Int)) = xs.take n := by
  unfold cutL
  rw [HT.sIx_none, HT.sIx_nat, List.drop_zero, Nat.sub_zero, Nat.min_eq_left h]
theorem cut_from {α : Type} {xs : List α} {n : Nat} (h : n ≤ xs.length) : cutL xs (some (n : Int)) none = xs.drop n := by
  unfold cutL
  rw [HT.sIx_none, HT.sIx_nat, Nat.min_eq_left h, List.take_of_length_le]
  rw [List.length_drop]
  exact Nat.le_refl _
theorem cut_toN {α : Type} {xs : List α} {n : Nat} : cutL xs none (some (n : Int)) = xs.take n := by
  unfold cutL
  rw [HT.sIx_none, HT.sIx_nat, List.drop_zero, Nat.sub_zero]
  by_cases h : n ≤ xs.length
  · rw [Nat.min_eq_left h]
  · rw [Nat.min_eq_right (by omega), List.take_of_length_le (Nat.le_refl _), List.take_of_length_le (by omega)]
end B
/-! B: more rules: lists that change, dict comprehensions, calls of three and four, targets of three and four names, list(range) -/
namespace B
open PySem L2
open PySem.W (Tup T3 T4 Datum DatumOrd)
open Evl (Ex)
section
variable {α β γ δ : Type} [Py α] [Py β] [Py γ] [Py δ] {K : Fg} {W W' : Wd} {σ : SS} {ε : Ef} {te ta tb tc td : TE} {i : Nat} {d : Addr} {S : List Addr}
theorem ty_tup {xs : Tup α} (W1 : Wd) (v : V) (h : rep K W1.B v xs) : TyX K W1.H v (.type "tuple") := by
  obtain ⟨a, vs, rfl, h1, _⟩ := h
  exact .base (.tup (W1.sub.et h1))
theorem ty_lst {xs : List α} (W1 : Wd) (v : V) (h : rep K W1.B v xs) : TyX K W1.H v (.type "list") := by
  obtain ⟨a, vs, rfl, h1, _⟩ := h
  exact .base (.lst (W1.sub.el h1))
/-- isinstance(x, (c1, c2)), built-in classes -/
theorem ev_isi2 {x : α} {a c1 c2 : String} {b1 b2 : Bool} (h : EvR ε K te σ W x) (ht : ∀ (W1 : Wd) v, rep K W1.B v x → TyX K W1.H v (.type a)) (h1 : kitB a c1 = some b1) (h2 : kitB a c2 = some b2) : EvR ε K (tCB (rIsiT K) (tCons te (tCons (tTup (tCons (tC (.ty c1)) (tCons (tC (.ty c2)) tNil))) tNil))) σ W (b1 || b2) := fun W1 g1 Q k =>
  h W1 g1 _ fun v W2 g2 r => ⟨Evl.sz_of (by show 2 ≤ 100000; decide), fun p hp => ⟨v, p, [.ty c1, .ty c2], .type a, [.type c1, .type c2], b1 || b2, rfl, upd_same, .cons (.ty c1) (.cons (.ty c2) .nil), ht (W2.add p (.tup [.ty c1, .ty c2])) v (rep_g (W2.grow_add hp) r), by
    refine kitAny_cons (kit_ty h1) (fun e => ?_) (fun e => by rw [e]; rfl)
    rw [e, Bool.false_or]
    exact kitAny_cons (kit_ty h2) (fun e2 => by rw [e2]; exact kitAny_nil) (fun e2 => e2), k _ (W2.add p _) (g2.and (W2.grow_add hp)) rfl⟩⟩
/-! ### calls of three, four -/
theorem ev_callP3 {P1 P2 P3 R : V → Wd → Prop} {sp : Sp} {E : XK} (ha : EvP ε ta σ W P1) (hb : EvP ε tb σ W P2) (hc : EvP ε tc σ W P3) (m1 : ∀ v W W', Stp ε W W' → P1 v W → P1 v W') (m2 : ∀ v W W', Stp ε W W' → P2 v W → P2 v W')
    (hs : ∀ v1 v2 v3 W1, Stp ε W W1 → P1 v1 W1 → P2 v2 W1 → P3 v3 W1 → ∀ Q : VK, (∀ u W2, Stp ε W1 W2 → R u W2 → Q u W2.H) → sp [v1, v2, v3] W1.H Q E) : EvP ε (tCall sp [] E (tCons ta (tCons tb (tCons tc tNil)))) σ W R := fun W1 g1 Q k =>
  ha W1 g1 _ fun v1 W2 g2 p1 => hb W2 (g1.trans g2) _ fun v2 W3 g3 p2 => hc W3 ((g1.trans g2).trans g3) _ fun v3 W4 g4 p3 => hs v1 v2 v3 W4 (((g1.trans g2).trans g3).trans g4) (m1 _ _ _ (g3.trans g4) p1) (m2 _ _ _ g4 p2) p3 Q fun u W5 g5 r => k u W5 (((g2.trans g3).trans g4).trans g5) r
theorem ev_callP4 {P1 P2 P3 P4 R : V → Wd → Prop} {sp : Sp} {E : XK} (ha : EvP ε ta σ W P1) (hb : EvP ε tb σ W P2) (hc : EvP ε tc σ W P3) (hd : EvP ε td σ W P4) (m1 : ∀ v W W', Stp ε W W' → P1 v W → P1 v W') (m2 : ∀ v W W', Stp ε W W' → P2 v W → P2 v W') (m3 : ∀ v W W', Stp ε W W' → P3 v W → P3 v W')
    (hs : ∀ v1 v2 v3 v4 W1, Stp ε W W1 → P1 v1 W1 → P2 v2 W1 → P3 v3 W1 → P4 v4 W1 → ∀ Q : VK, (∀ u W2, Stp ε W1 W2 → R u W2 → Q u W2.H) → sp [v1, v2, v3, v4] W1.H Q E) : EvP ε (tCall sp [] E (tCons ta (tCons tb (tCons tc (tCons td tNil))))) σ W R := fun W1 g1 Q k =>
  ha W1 g1 _ fun v1 W2 g2 p1 => hb W2 (g1.trans g2) _ fun v2 W3 g3 p2 => hc W3 ((g1.trans g2).trans g3) _ fun v3 W4 g4 p3 => hd W4 (((g1.trans g2).trans g3).trans g4) _ fun v4 W5 g5 p4 =>
    hs v1 v2 v3 v4 W5 ((((g1.trans g2).trans g3).trans g4).trans g5) (m1 _ _ _ ((g3.trans g4).trans g5) p1) (m2 _ _ _ (g4.trans g5) p2) (m3 _ _ _ g5 p3) p4 Q fun u W6 g6 r => k u W6 ((((g2.trans g3).trans g4).trans g5).trans g6) r
/-- a variable that holds what P tells -/
theorem ep_var {P : V → Wd → Prop} {v : V} (h : σ[i]? = some (some v)) (p : P v W) (m : ∀ W', Stp ε W W' → P v W') : EvP ε (tVar i) σ W P := fun W1 g1 Q k => ⟨v, h, k v W1 g1.rf (m W1 g1)⟩
/-- a method called -/
theorem ev_meth0 {R : V → Wd → Prop} {C : Addr} {m : Str} {sp : Sp} {E : XK} {x : Addr} {dx : Addr} {fs : List (Str × V)} (hd : σ[i]? = some (some (.ref x))) (hb : W.B x = none) (hh : W.H x = some (.ins C dx fs)) (hS : x ∉ ε.S) (hl : fs.lookup m = none)
    (hs : ∀ W1, Stp ε W W1 → ∀ Q : VK, (∀ u W2, Stp ε W1 W2 → R u W2 → Q u W2.H) → sp [.ref x] W1.H Q E) : EvP ε (tMeth C m sp [] E (tVar i) tNil) σ W R := fun W1 g1 Q k => by
  have mm := g1.md.mut hS hh hb
  exact ⟨_, hd, x, dx, fs, rfl, mm.1, hl, hs W1 g1 Q k⟩
/-! ### targets -/
theorem gt_t3 {j1 j2 j3 : Nat} {p : T3 α β γ} {v : V} {Q : SS → Hp → Prop} (r : rep K W.B v p) (k : ∀ v1 v2 v3, rep K W.B v1 p.a → rep K W.B v2 p.b → rep K W.B v3 p.c → Q (((σ.set j1 (some v1)).set j2 (some v2)).set j3 (some v3)) W.H) : gTup K 3 (gCons (gName j1) (gCons (gName j2) (gCons (gName j3) gNil))) v σ W.H Q := by
  obtain ⟨a, x, y, z, e, h, r1, r2, r3⟩ := r
  exact ⟨a, [x, y, z], e, SqT.of (W.sub.et h), rfl, x, [y, z], rfl, y, [z], rfl, z, [], rfl, rfl, k x y z r1 r2 r3⟩
theorem gt_t4 {j1 j2 j3 j4 : Nat} {p : T4 α β γ δ} {v : V} {Q : SS → Hp → Prop} (r : rep K W.B v p) (k : ∀ v1 v2 v3 v4, rep K W.B v1 p.a → rep K W.B v2 p.b → rep K W.B v3 p.c → rep K W.B v4 p.d → Q ((((σ.set j1 (some v1)).set j2 (some v2)).set j3 (some v3)).set j4 (some v4)) W.H) : gTup K 4 (gCons (gName j1) (gCons (gName j2) (gCons (gName j3) (gCons (gName j4) gNil)))) v σ W.H Q := by
  obtain ⟨a, x, y, z, w, e, h, r1, r2, r3, r4⟩ := r
  exact ⟨a, [x, y, z, w], e, SqT.of (W.sub.et h), rfl, x, [y, z, w], rfl, y, [z, w], rfl, z, [w], rfl, w, [], rfl, rfl, k x y z w r1 r2 r3 r4⟩
theorem gt_p2 {j1 j2 : Nat} {p : α × β} {v : V} {Q : SS → Hp → Prop} (r : rep K W.B v p) (k : ∀ v1 v2, rep K W.B v1 p.1 → rep K W.B v2 p.2 → Q ((σ.set j1 (some v1)).set j2 (some v2)) W.H) : gPair K j1 j2 v σ W.H Q := by
  obtain ⟨a, x, y, e, h, r1, r2⟩ := r
  exact ⟨a, [x, y], e, SqT.of (W.sub.et h), rfl, x, [y], rfl, y, [], rfl, rfl, k x y r1 r2⟩
theorem gt_u2 {j1 j2 : Nat} {x y : α} {v : V} {Q : SS → Hp → Prop} (r : rep K W.B v [x, y]) (k : ∀ v1 v2, rep K W.B v1 x → rep K W.B v2 y → Q ((σ.set j1 (some v1)).set j2 (some v2)) W.H) : gUnl K 2 (gCons (gName j1) (gCons (gName j2) gNil)) v σ W.H Q := by
  obtain ⟨a, vs, e, h, r⟩ := r
  cases r with
  | cons r1 r =>
    cases r with
    | cons r2 r =>
      cases r
      exact ⟨a, _, e, SqL.of (W.sub.el h), rfl, _, _, rfl, _, _, rfl, rfl, k _ _ r1 r2⟩
theorem ev_t4 {x : α} {y : β} {z : γ} {w : δ} (ha : EvR ε K ta σ W x) (hb : EvR ε K tb σ W y) (hc : EvR ε K tc σ W z) (hd : EvR ε K td σ W w) : EvR ε K (tTup (tCons ta (tCons tb (tCons tc (tCons td tNil))))) σ W (T4.mk x y z w) := fun W1 g1 Q k =>
  ha W1 g1 _ fun a W2 g2 ra => hb W2 (g1.trans g2) _ fun b W3 g3 rb => hc W3 ((g1.trans g2).trans g3) _ fun c W4 g4 rc => hd W4 (((g1.trans g2).trans g3).trans g4) _ fun e W5 g5 re => ⟨Evl.sz_of (by show 4 ≤ 100000; decide), fun p hp =>
    k _ (W5.add p (.tup [a, b, c, e])) ((((g2.trans g3).trans g4).trans g5).and (W5.grow_add hp)) ⟨p, a, b, c, e, rfl, upd_same, rep_g (W5.grow_add hp) (rep_s g5 (rep_s g4 (rep_s g3 ra))), rep_g (W5.grow_add hp) (rep_s g5 (rep_s g4 rb)), rep_g (W5.grow_add hp) (rep_s g5 rc), rep_g (W5.grow_add hp) re⟩⟩
/-- an item of a tuple of four -/
theorem ro_ixQ {p : T4 α β γ δ} : RO K (rIxT K) p (0 : Int) p.a ∧ RO K (rIxT K) p (1 : Int) p.b ∧ RO K (rIxT K) p (2 : Int) p.c ∧ RO K (rIxT K) p (3 : Int) p.d := by
  refine ⟨ro_val fun v u W1 rv ru Q k => ?_, ro_val fun v u W1 rv ru Q k => ?_, ro_val fun v u W1 rv ru Q k => ?_, ro_val fun v u W1 rv ru Q k => ?_⟩ <;>
  · obtain ⟨a, x, y, z, w, e, h, r1, r2, r3, r4⟩ := rv
    exact ⟨a, [x, y, z, w], _, _, e, ru, SqT.of (W1.sub.et h), rfl, k _ (by first | exact r1 | exact r2 | exact r3 | exact r4)⟩
/-- list(range(a, b)) -/
theorem ev_lstRg {a b : Int} (ha : EvR ε K ta σ W a) (hb : EvR ε K tb σ W b) (h : RgOk a b) : EvR ε K (tLstRg (tRg2 ta tb)) σ W (rng a (b - a).toNat) := fun W1 g1 Q k =>
  ha W1 g1 _ fun v W2 g2 ra => hb W2 (g1.trans g2) _ fun u W3 g3 rb => ⟨a, b, ra, rb, h, fun p hp => k _ (W3.add p _) ((g2.trans g3).and (W3.grow_add hp)) ⟨p, _, rfl, upd_same, by
    have : rgV a b = (rng a (b - a).toNat).map V.int := by
      unfold rgV rng
      rw [List.map_map]
      rfl
    rw [this]
    exact int_reps _⟩⟩
/-! ### lists that change -/
structure LMut (K : Fg) (W : Wd) (d : Addr) (xs : List α) : Prop where
  b : W.B d = none
  ex : ∃ vs, W.H d = some (.lst vs) ∧ Reps K W.B vs xs
theorem LMut.g {xs : List α} (m : LMut K W d xs) (g : Md S W W') (h : d ∉ S) : LMut K W' d xs := by
  obtain ⟨vs, e, r⟩ := m.ex
  have := g.mut h e m.b
  exact ⟨this.2, vs, this.1, Reps.mono (exExt g.b) r⟩
theorem LMut.gr {xs : List α} (m : LMut K W d xs) (g : Grow W W') : LMut K W' d xs := m.g g (by simp)
theorem LMut.nt {xs : List α} (m : LMut K W d xs) : Nt W.H d := by
  obtain ⟨vs, e, _⟩ := m.ex
  exact .l e
/-- xs.append(y) -/
theorem s_append {D : Ends} {xs : List α} {y : α} (hd : σ[i]? = some (some (.ref d))) (m : LMut K W d xs) (h : EvR pur K te σ W y) (hl : xs.length < 100000) (q : ∀ W', Md [d] W W' → On W W' → LMut K W' d (xs ++ [y]) → D.nx σ W'.H) : tDrop (tBM K "list" rAppend (tVar i) (tCons te tNil)) D σ W.H := by
  obtain ⟨vs, e, r⟩ := m.ex
  refine ⟨_, hd, .inl ⟨rfl, vs, SqL.of e⟩, h W (.start trivial) _ fun v W1 g1 rv => ?_⟩
  obtain ⟨vs1, e1, r1⟩ := (m.gr g1.pure).ex
  have b1 := (m.gr g1.pure).b
  exact ⟨d, vs1, v, rfl, rfl, e1, by rw [Reps.len r1]; exact Evl.sz_lt hl, q (W1.put d _ b1) ((Grow.s g1.pure).trans (md_put b1)) (g1.on.trans (md_put b1).on) ⟨b1, _, upd_same, Reps.snoc r1 rv⟩⟩
theorem q_append {D : Ends} {tz : TS} {xs : List α} {y : α} (hd : σ[i]? = some (some (.ref d))) (m : LMut K W d xs) (h : EvR pur K te σ W y) (hl : xs.length < 100000) (q : ∀ W', Md [d] W W' → On W W' → LMut K W' d (xs ++ [y]) → tz D σ W'.H) : tSeq (tDrop (tBM K "list" rAppend (tVar i) (tCons te tNil))) tz D σ W.H := s_append (D := { D with nx := tz D }) hd m h hl q
/-- it shall stay -/
theorem LMut.fix {xs : List α} (m : LMut K W d xs) : ∃ o, ∃ h : W.H d = some o, rep K (W.fix d o h).B (.ref d) xs ∧ Ex W.B (W.fix d o h).B ∧ ∀ W0 S, Md S W0 W → W0.H d = none → Md S W0 (W.fix d o h) := by
  obtain ⟨vs, e, r⟩ := m.ex
  exact ⟨_, e, ⟨d, vs, rfl, upd_same, Reps.mono (exExt (ex_fix e m.b)) r⟩, ex_fix e m.b, fun W0 S g f => md_fix g e m.b f⟩
/-- a list that changes, read -/
theorem LMut.rv {xs : List α} (m : LMut K W d xs) : ∃ vs, W.H d = some (.lst vs) ∧ Reps K W.B vs xs := m.ex
end
/-! ### {k: v for x in ..} -/
section
variable {α β κ : Type} [Py α] [Py β] [DecidableEq κ] [PyKey κ] {K : Fg} {W : Wd} {σ : SS} {ε : Ef} {tk tv : TE} {wi : TI}
theorem ed_dcN {j : Nat} {xs : List α} {f : α → κ} {g : α → β} (hi : EvI ε K wi σ W xs) (hk : ∀ x v W', x ∈ xs → Stp ε W W' → rep K W'.B v x → EvP ε tk ((wipe σ [j]).set j (some v)) W' (fun u _ => u = kV (PyKey.key (f x)))) (he : ∀ x v W', x ∈ xs → Stp ε W W' → rep K W'.B v x → EvR ε K tv ((wipe σ [j]).set j (some v)) W' (g x)) (hl : xs.length < 100000) :
    ∀ W1, Stp ε W W1 → ∀ Q : VK, (∀ p W2, Stp ε W1 W2 → W1.H p = none → DMut K W2 p (xs.foldl (fun kv x => kput kv (f x) (g x)) []) → Q (.ref p) W2.H) → tDc wi (gName j) tYes tk tv [j] σ W1.H Q := fun W1 g1 Q k =>
  hi W1 g1 _ fun J S W2 g2 s2 sg src D hD => by
    have DS : D ∉ ε.S := Ef.off g2.i hD
    refine ⟨fun i m H => m = xs.length - i ∧ i ≤ xs.length ∧ ∃ Wi, Wi.H = H ∧ Stp ε W2 Wi ∧ DMut K Wi D ((xs.take i).foldl (fun kv x => kput kv (f x) (g x)) []) ∧ ((xs.take i).foldl (fun kv x => kput kv (f x) (g x)) []).length ≤ i, ⟨xs.length, rfl, Nat.zero_le _, W2.put D (.dK []) (W2.free hD), rfl, ⟨md_mut (.refl _ _) (W2.free hD) hD, i_put DS g2.i _⟩, DMut.new W2 hD, Nat.le_refl _⟩, ?_⟩
    rintro i m H ⟨rfl, hle, Wi, rfl, gi, dm, dl⟩
    have si : S Wi := sg _ _ s2 gi
    by_cases hlt : i < xs.length
    · refine .inr ⟨src.go i Wi si hlt, fun H => i + 1 ≤ xs.length ∧ ∃ Wi, Wi.H = H ∧ Stp ε W2 Wi ∧ DMut K Wi D ((xs.take (i + 1)).foldl (fun kv x => kput kv (f x) (g x)) []) ∧ ((xs.take (i + 1)).foldl (fun kv x => kput kv (f x) (g x)) []).length ≤ i + 1, fun H' h' => ⟨_, by omega, rfl, h'⟩, fun v H'' hy => ?_⟩
      obtain ⟨x, W3, rfl, g3', hx, r⟩ := src.yld i Wi v H'' si hlt hy
      have g3 : Stp ε Wi W3 := gi.rf.and g3'
      have hm := List.mem_of_getElem? hx
      have G3 := ((g1.trans g2).trans gi).trans g3
      refine ⟨wipe1, et_yes (ε := ε) W3 g3.rf _ fun W4 g4 => ?_⟩
      rw [if_pos rfl]
      have G4 := G3.trans g4
      refine hk x v W4 hm G4 (rep_s g4 r) W4 g4.rf _ fun u W5 g5 eu => he x v W5 hm (G4.trans g5) (rep_s g5 (rep_s g4 r)) W5 g5.rf _ fun w W6 g6 rw' => ?_
      have G6 : Stp ε Wi W6 := ((g3.trans g4).trans g5).trans g6
      obtain ⟨ks, e6, r6⟩ := (dm.s G6 DS).ex
      have b6 := (dm.s G6 DS).b
      have tk' : xs.take (i + 1) = xs.take i ++ [x] := by rw [List.take_add_one, hx]; rfl
      have ef : (xs.take (i + 1)).foldl (fun kv x => kput kv (f x) (g x)) [] = kput ((xs.take i).foldl (fun kv x => kput kv (f x) (g x)) []) (f x) (g x) := by rw [tk', List.foldl_append]; rfl
      refine ⟨ks, PyKey.key (f x), eu, e6, by rw [KReps.len r6]; exact Evl.sz_lt (by omega), hlt, W6.put D _ b6, rfl, ⟨md_mut (gi.trans G6).md b6 hD, i_put DS G6.i _⟩, ⟨b6, _, upd_same, ?_⟩, ?_⟩
      · rw [ef]
        exact KReps.put r6 (f x) rw'
      · rw [ef]
        have := kput_len ((xs.take i).foldl (fun kv x => kput kv (f x) (g x)) []) (f x) (g x)
        omega
    · have e : i = xs.length := by omega
      subst e
      rw [List.take_length] at dm
      exact .inl ⟨src.stop _ Wi si (Nat.le_refl _), k D Wi (g2.trans gi) (by
        cases e : W1.H D with
        | none => rfl
        | some o => exact absurd hD (g2.md.d D (by rw [e]; exact fun z => by cases z))) dm⟩
end
/-- xs = xs + ys, xs a list that changes: a new one that may change -/
theorem s_catM {α : Type} [Py α] {K : Fg} {σ : SS} {W : Wd} {D : Ends} {te : TE} {i : Nat} {d : Addr} {xs ys : List α} (hd : σ[i]? = some (some (.ref d))) (m : LMut K W d xs) (h : EvR pur K te σ W ys) (hl : xs.length + ys.length ≤ 100000)
    (q : ∀ d' W', Grow W W' → W.H d' = none → LMut K W' d' (xs ++ ys) → D.nx (σ.set i (some (.ref d'))) W'.H) : tAsg (tOp rCat (tVar i) te) (gName i) D σ W.H := ⟨_, hd, h W (.start trivial) _ fun v W1 g1 ⟨b, us, e, s, r⟩ => by
  obtain ⟨vs, e1, r1⟩ := (m.gr g1.pure).ex
  refine ⟨d, b, vs, us, rfl, e, e1, W1.sub.el s, Evl.sz_of (by rw [Reps.len r1, Reps.len r]; exact hl), fun p hp => q p (W1.put p _ (W1.free hp)) (g1.pure.trans (W1.grow_put hp)) ?_ ⟨W1.free hp, _, upd_same, Reps.app r1 r⟩⟩
  cases z : W.H p with
  | none => rfl
  | some o => exact absurd hp (g1.md.d p (by rw [z]; exact fun y => by cases y))⟩
theorem q_asgG {α : Type} [Py α] {ε : Ef} {K : Fg} {σ : SS} {W : Wd} {D : Ends} {te : TE} {g : TG} {tz : TS} {x : α} (h : EvR ε K te σ W x) (s : ε.I W) (k : ∀ v W', Stp ε W W' → rep K W'.B v x → g v σ W'.H fun σ2 H2 => tz D σ2 H2) : tSeq (tAsg te g) tz D σ W.H := h W (.start s) _ k
theorem EvJ.toIs {α : Type} [Py α] {ε : Ef} {K : Fg} {wi : TI} {σ : SS} {W : Wd} {xs ys : List α} (h : EvJ ε K wi σ W xs) (e : xs = ys) : EvJ ε K wi σ W ys := e ▸ h
end B
/-! B: a row that is a list or a tuple, walked; sorted(set(tuple)); a tuple's steps -/
namespace BY
open PySem PySem.Spec PyProof.Rows L2
section
variable {prog : Program} {w : World} {A : Around} {E : Value → Shared → Prop} {s : Shared} {a : Addr}
theorem sorted_setO {S : Int → Bool} {n : Nat} {Q : Value → Shared → Prop} (R : SetR w s.heap a S n) (hh : A.handled = none) (hz0 : n ≤ 4000)
    (hQ : ∀ s' p (out : List Value) (c : Nat) (ns : List Int), (∀ b o, s.heap.get? b = some o → s'.heap.get? b = some o) → s'.gens = s.gens → s'.os = s.os → s.heap.objs.size ≤ p →
      s'.heap.get? p = some (seqObj "list" out.toArray c) → IntsAre out ns → ns.Pairwise (· < ·) → (∀ k, k ∈ ns ↔ S k = true) → ns.length = n → Q (.ref p) s') :
    wpAny (model prog w) A (call (.builtin "sorted") [.ref a]) Q E s := by
  obtain ⟨o, es, ep, t, ho, hex, hd, g, nd, hm, hb, hf, hn, hr, hl⟩ := R
  refine Calls.call_function_entry kind_sorted plain_sorted entry_sorted (args_sorted1 _) ?_
  unfold Builtin.«sorted»
  refine wpAny_bind (m := checkCount "sorted" 1 1 _) (wpAny_pure ?_)
  refine wpAny_bind (collect_set (A := A.in1) hh ⟨o, ho, hex.1, hd⟩ hf hb hr hl fun s1 vs k1 hz g1 o1 pm => ?_)
  have hvl : vs.length = n := by rw [pm.length_eq, List.length_map, Array.length_toList]; exact hn
  have hI : IntsAre vs (vs.map Builtin.Re.reRawOf) := ints_of vs fun v hv => by
    obtain ⟨e, he, q⟩ := List.mem_map.mp (pm.mem_iff.mp hv)
    obtain ⟨k, tk, h1, _⟩ := g e he
    exact ⟨k, tk, by rw [← q]; exact h1⟩
  have pk : (vs.map Builtin.Re.reRawOf).Perm (es.toList.map keyOf) := by
    have q := pm.map Builtin.Re.reRawOf
    rw [List.map_map] at q
    exact q
  have hzl : vs.length ≤ sizeLine := by rw [hvl, sizeLine_eq]; omega
  refine wpAny_bind (wpAny_newList ?_ hzl)
  have hoL : (s1.heap.push (seqObj "list" vs.toArray 0)).get? s1.heap.objs.size = some (seqObj "list" vs.toArray 0) := Heap.get?_push_size _ rfl
  refine wpAny_bind (wpAny_holding (wpAny_call_entry slot_list_sort ⟨_, hoL, rfl⟩ entry_list_sort (SrtO.list_sort_ord SrtO.swo_int hoL hzl (fun h2 => SrtO.ints_sortable hI h2) fun out hs hb' => ⟨_, rfl, ?_⟩) (args_list_sort _)))
  obtain ⟨c, hc⟩ := sortedHeap_at (vs := vs) (out := out.toArray) hoL
  obtain ⟨a1, a2, a3⟩ := SrtO.ints_out hI hs hb'
  have pn : (out.map SrtO.iv).Perm (es.toList.map keyOf) := a2.trans pk
  refine wpAny_pure ⟨_, rfl, hQ _ s1.heap.objs.size out c (out.map SrtO.iv) (fun b u e => ?_) g1 o1 hz hc a1 (lt_of_le_nodup _ a3 (pn.nodup_iff.mpr nd)) (fun k => by rw [pn.mem_iff, ← hm k]) ?_⟩
  · have q := k1 b u e
    have hlt := Heap.lt_size q
    show (sortedHeap (s1.heap.push (seqObj "list" vs.toArray 0)) s1.heap.objs.size vs out.toArray).get? b = some u
    rw [sortedHeap_old (Nat.ne_of_lt hlt) (by rw [size_push']; exact Nat.lt_succ_of_lt hlt)]
    exact Heap.get?_push_of_some _ q
  · rw [pn.length_eq, List.length_map, Array.length_toList]; exact hn
end
section
variable {X : Cx} {tg : Expr}
/-- sorted(set(t)), a tuple of ints -/
def tSortSet (K : PySem.W.Frag) (ta : TE) : TE := fun σ H Q => ta σ H fun x H1 => ∃ (l : Addr) (ns : List Int), x = .ref l ∧ SqT K H1 l (ns.map V.int) ∧ ns.length ≤ 4000 ∧
  ∀ (ns' : List Int) (p : Addr), ns'.Pairwise (· < ·) → (∀ k, k ∈ ns' ↔ k ∈ ns) → H1 p = none → Q (.ref p) (upd H1 p (.lst (ns'.map V.int)))
theorem set_sorted {pins : List (Addr × Obj)} {σ : L2.St} {H1 : Hp} {s2 : Shared} {b : Addr} {ns : List Int} {c : Nat} {Q : VK} (I2 : L2.Inv X pins σ H1 s2) (hS : SetR X.w s2.heap b (fun j => decide (j ∈ ns)) c) (hc4 : c ≤ 4000) (hc : X.calm = true)
    (q1 : ∀ (ns' : List Int) (p : Addr), ns'.Pairwise (· < ·) → (∀ k, k ∈ ns' ↔ k ∈ ns) → H1 p = none → Q (.ref p) (upd H1 p (.lst (ns'.map V.int)))) :
    wpAny (model X.prog X.w) X.A (call (.builtin "sorted") [.ref b]) (EP X pins σ Q) X.xe s2 := by
  refine sorted_setO hS (I2.ok.hd hc) hc4 fun s' p out c2 ns' k g o hp hg' hi hs hm' hl' => ?_
  have hlen' : (ns'.map V.int).length ≤ sizeLine := by rw [List.length_map, hl', sizeLine_eq]; omega
  have hn : H1 p = none := I2.hok.fresh hp
  have J : Inv X pins σ (upd H1 p (.lst (ns'.map V.int))) { s2 with heap := s'.heap, gens := s'.gens, drawn := s'.drawn, toks := s'.toks } :=
    I2.call (ch := []) (Un.laid k hp hn) (I2.hok.laid k hp ⟨hlen', out, c2, vals_of_ints hi, hg'⟩) (by rw [g]; exact I2.bare) (fun _ z => nomatch z)
  have e : s' = { s2 with heap := s'.heap, gens := s'.gens, drawn := s'.drawn, toks := s'.toks } := by
    cases s'
    cases s2
    cases o
    rfl
  rw [e]
  exact ⟨.ref p, _, J, rfl, q1 ns' p hs (fun k => by rw [hm' k, decide_eq_true_eq]) hn⟩
theorem pe_sortSet {a : Expr} {ta : TE} {p p2 q pos : Pos} (hg : Gl X "sorted") (hm : X.mg "sorted" = none) (hg2 : Gl X "set") (hm2 : X.mg "set" = none) (ha : PE X a ta) (hc : X.calm = true := by rfl)
    (na : starEach [a] X.env = (false, eval a X.env) :: starEach [] X.env := by rfl) : PE X (.Call (.Name "sorted" p) [.Call (.Name "set" p2) [a] [] q] [] pos) (tSortSet X.K ta) := by
  refine ⟨fun pins s σ H Q I h => ?_⟩
  refine Call_ (ld_blt I hg hm (show bootBuiltins "sorted" = some (.builtin "sorted") by decide +kernel) ?_)
  refine PyProof.Rows.callWith_builtin1 (PyProof.Rows.args_cons ?_ rfl) rfl rfl
  refine Call_ (ld_blt I hg2 hm2 boot_set ?_)
  refine PyProof.Rows.callWith_type1 (PyProof.Rows.args_cons (thn (ha.run pins s σ H _ I h) fun v s1 ⟨x, H1, I1, r1, q1⟩ => PyProof.Rows.args_nil ?_) na) na rfl
  obtain ⟨l, ns, rfl, hq, hl, q1⟩ := q1
  cases r1
  obtain ⟨its, r, pl, hz⟩ := I1.tuple hq
  have hlen : its.length = ns.length := by rw [← r.length, List.length_map]
  refine call_set_tupI ns (I1.ok.hd hc) (items := its.toArray) ?_ (by simpa using r.ints) (by unfold scanBound; omega) fun h' tk c hS hc' hk => ?_
  · exact pl
  refine PyProof.Rows.args_nil ?_
  have I2 : Inv X pins σ H1 { s1 with heap := h', toks := tk } := I1.kept fun b o e => hk b o e
  exact set_sorted I2 hS (by omega) hc q1
/-- a row, a list or a tuple, walked -/
def iSeq (K : PySem.W.Frag) (tl : TE) : TI := fun σ H R => iList K tl σ H R ∨ iTup K tl σ H R
theorem pi_seq {l : Expr} {tl : TE} (hl : PE X l tl) : PI X tg l (iSeq X.K tl) := by
  refine ⟨fun pins s σ H R I h => ?_⟩
  rcases h with h | h
  · exact (pi_list hl).run pins s σ H R I h
  · exact (pi_tup hl).run pins s σ H R I h
/-! ### t[lo:hi:k] -/
theorem vals_pick {xs : List V} {us : List Value} (r : Vals xs us) : ∀ l : List Nat, Vals (l.filterMap fun m => xs[m]?) (l.filterMap fun m => us.toArray[m]?)
  | [] => .nil
  | m :: l => by
    have ih := vals_pick r l
    cases hx : xs[m]? with
    | none =>
      have hu := r.none_of hx
      rw [List.filterMap_cons_none hx, List.filterMap_cons_none (by simpa using hu)]
      exact ih
    | some x =>
      obtain ⟨u, hu, ru⟩ := r.get hx
      rw [List.filterMap_cons_some hx, List.filterMap_cons_some (b := u) (by simpa using hu)]
      exact .cons ru ih
/-- the places of [lo:hi:k] among n -/
def stepIx (lo hi : Option Int) (k : Int) (n : Nat) : List Nat :=
  (List.range (Builtin.Slice.slicePlaces (Builtin.Slice.sliceAdjust lo hi k n).1 (Builtin.Slice.sliceAdjust lo hi k n).2 k)).map fun (m : Nat) => ((Builtin.Slice.sliceAdjust lo hi k n).1 + (m : Int) * k).toNat
def tTupStep (K : PySem.W.Frag) (te : TE) (lo hi : Option Int) (k : Int) : TE := fun σ H Q => te σ H fun x H1 => ∃ a xs, x = .ref a ∧ SqT K H1 a xs ∧ (stepIx lo hi k xs.length).length ≤ sizeLine ∧
  ∀ p, H1 p = none → Q (.ref p) (upd H1 p (.tup ((stepIx lo hi k xs.length).filterMap fun m => xs[m]?)))
/-- a part of a slice that is left out or is a number in the text -/
structure PCn (X : Cx) (e : Option Expr) (o : Option Int) : Prop where
  run : ∀ (pins : List (Addr × Obj)) (s : Shared) (σ : L2.St) (H : Hp) (R : Value → Shared → Prop), Inv X pins σ H s → (∀ u, IsPart u o → ∀ s', Inv X pins σ H s' → R u s') → wpAny (model X.prog X.w) X.A (evalPart e X.env) R X.xe s
theorem pc_none : PCn X none none := ⟨fun pins s σ H R I h => thn (po_none.run pins s σ H (fun o H2 => o = none ∧ H2 = H) I ⟨rfl, rfl⟩) fun vl s2 ⟨l, H2, I2, pl, el, e2⟩ => by
  subst el e2
  exact h _ pl _ I2⟩
theorem pc_pos {i : Nat} {k : Nat} {p : Pos} : PCn X (some (.Constant (.int i) k p)) (some i) := ⟨fun pins s σ H R I h => by
  have hst : PO X (some (.Constant (.int i) k p)) (tPart (tC (.int i))) := po_some pe_int
  exact thn (hst.run pins s σ H (fun o H2 => o = some (i : Int) ∧ H2 = H) I ⟨i, rfl, rfl, rfl⟩) fun vl s2 ⟨l, H2, I2, pl, el, e2⟩ => by
    subst el e2
    exact h _ pl _ I2⟩
theorem pc_neg {i : Nat} {k : Nat} {p p2 : Pos} : PCn X (some (.UnaryOp .USub (.Constant (.int i) k p) p2)) (some (-(i : Int))) := ⟨fun pins s σ H R I h => by
  have hst : PO X (some (.UnaryOp .USub (.Constant (.int i) k p) p2)) (tPart (tUn (rU fun i => .int (-i)) (tC (.int i)))) := po_some (pe_un un_neg pe_int)
  exact thn (hst.run pins s σ H (fun o H2 => o = some (-(i : Int)) ∧ H2 = H) I ⟨i, rfl, _, rfl, rfl, rfl⟩) fun vl s2 ⟨l, H2, I2, pl, el, e2⟩ => by
    subst el e2
    exact h _ pl _ I2⟩
section
variable {prog : Program} {w : World} {A : Around} {E : Value → Shared → Prop} {s : Shared}
theorem sliceApplied_step {sl : Addr} {vl vu vs : Value} {lo hi : Option Int} {k : Int} {n : Nat} {Q : Int × Int × Nat → Shared → Prop} (hs : s.heap.IsSliceOf sl vl vu vs) (pl : IsPart vl lo) (pu : IsPart vu hi) (ps : IsPart vs (some k)) (h0 : k ≠ 0)
    (h : Q ((Builtin.Slice.sliceAdjust lo hi k n).1, k, Builtin.Slice.slicePlaces (Builtin.Slice.sliceAdjust lo hi k n).1 (Builtin.Slice.sliceAdjust lo hi k n).2 k) s) : wpAny (model prog w) A (Builtin.Slice.sliceApplied (.ref sl) (pure (n : Int))) Q E s := by
  obtain ⟨os, hos, hcs, hds⟩ := id hs
  unfold Builtin.Slice.sliceApplied Builtin.Slice.sliceFields
  refine wpAny_bind (wpAny_bind (wpAny_field hos hds (x := vl) rfl (wpAny_bind (wpAny_field hos hds (x := vu) rfl (wpAny_bind (wpAny_field hos hds (x := vs) rfl (wpAny_pure ?_)))))))
  refine wpAny_bind (HT.slicePart_ ps ?_)
  show wpAny _ _ (if (k == 0) = true then _ else _) _ _ s
  rw [if_neg (by simpa using h0)]
  refine wpAny_bind (HT.slicePart_ pl (wpAny_bind (HT.slicePart_ pu (wpAny_bind (wpAny_pure ?_)))))
  exact wpAny_pure h
theorem getItem_tuple_step {t sl : Addr} {items : Array Value} {vl vu vs : Value} {lo hi : Option Int} {k : Int} {Q : Value → Shared → Prop} (ht : IsTup s.heap t items) (hs : s.heap.IsSliceOf sl vl vu vs) (pl : IsPart vl lo) (pu : IsPart vu hi) (ps : IsPart vs (some k)) (h0 : k ≠ 0) (h1 : k ≠ 1)
    (h : Q (.ref s.heap.objs.size) { s with heap := s.heap.push { cls := .type "tuple", data := .seq ((stepIx lo hi k items.size).filterMap fun m => items[m]?).toArray } })
    (hsz : (stepIx lo hi k items.size).length ≤ sizeLine) : wpAny (model prog w) A (getItem (.ref t) (.ref sl)) Q E s := by
  have htake : sizeOk (.seq ((stepIx lo hi k items.size).filterMap fun m => items[m]?).toArray) := by
    show ((stepIx lo hi k items.size).filterMap fun m => items[m]?).toArray.size ≤ sizeLine
    rw [List.size_toArray]
    exact Nat.le_trans (List.length_filterMap_le _ _) hsz
  obtain ⟨os, hos, hcs, hds⟩ := id hs
  have hTs : s.TypeIs (.ref sl) "slice" := ⟨os, hos, hcs⟩
  unfold getItem
  try with_reducible refine wpAny_holding ?_
  first | refine wpAny_bind (wpAny_pure ?_) | skip
  refine wpAny_bind (wpAny_sequenceKey ht.typeIs (by decide) ?_)
  refine wpAny_bind (wpAny_callSpecial?_slot (name := Str.ofString "__getitem__") ht.typeIs PyProof.Rows.slot_tuple_getitem
    (wpAny_call_entry PyProof.Rows.slot_tuple_getitem ht.typeIs entry_tuple_getitem ?_ (args_tuple_getitem _ _)))
  show wpAny _ _ (Builtin.Tuple.tupleItemsOf (.ref t) >>= _) _ _ s
  refine wpAny_bind (tupleItemsOf_ ht ?_)
  refine wpAny_bind (wpAny_typeOf hTs ?_)
  rw [if_pos (by decide)]
  refine wpAny_bind (sliceApplied_step hs pl pu ps h0 ?_)
  have hno : ∀ a b : Bool, ¬ ((a && k == 1 && b) = true) := fun a b q => by
    rw [Bool.and_eq_true, Bool.and_eq_true] at q
    exact h1 (eq_of_beq q.1.2)
  show wpAny _ _ (if ((Builtin.Slice.sliceAdjust lo hi k items.size).1 == 0 && k == 1 && Builtin.Slice.slicePlaces (Builtin.Slice.sliceAdjust lo hi k items.size).1 (Builtin.Slice.sliceAdjust lo hi k items.size).2 k == items.size) = true then _ else _) _ _ s
  rw [if_neg (hno _ _)]
  have e : (List.range (Builtin.Slice.slicePlaces (Builtin.Slice.sliceAdjust lo hi k items.size).1 (Builtin.Slice.sliceAdjust lo hi k items.size).2 k)).filterMap (fun (m : Nat) => items[((Builtin.Slice.sliceAdjust lo hi k items.size).1 + (m : Int) * k).toNat]?)
      = (stepIx lo hi k items.size).filterMap fun m => items[m]? := by
    unfold stepIx
    rw [List.filterMap_map]
    rfl
  rw [e]
  first
    | exact wpAny_bind (m := Builtin.Tuple.tupleExact _) (wpAny_newObj_type (wpAny_pure ⟨_, rfl, wpAny_pure h⟩) htake)
    | exact wpAny_bind (m := Builtin.Tuple.tupleExact _) (wpAny_newObj_type (wpAny_bind (wpAny_pure (wpAny_pure ⟨_, rfl, wpAny_pure h⟩))) htake)
    | exact wpAny_bind (wpAny_bind (m := Builtin.Tuple.tupleExact _) (wpAny_newObj_type (wpAny_pure (wpAny_pure ⟨_, rfl, wpAny_pure h⟩)) htake))
    | exact wpAny_bind (wpAny_bind (m := Builtin.Tuple.tupleExact _) (wpAny_newObj_type (wpAny_pure ⟨_, rfl, wpAny_pure h⟩) htake))
end
theorem pe_tupStep {e : Expr} {te : TE} {lo hi : Option Expr} {st : Expr} {ol oh : Option Int} {k : Int} {p3 pos : Pos} (he : PE X e te) (hl : PCn X lo ol) (hh : PCn X hi oh) (hk : PCn X (some st) (some k)) (h0 : k ≠ 0) (h1 : k ≠ 1) : PE X (.Subscript e (.Slice lo hi (some st) p3) pos) (tTupStep X.K te ol oh k) := by
  refine ⟨fun pins s σ H Q I h => ?_⟩
  refine Subscript_ (thn (he.run pins s σ H _ I h) fun v s1 ⟨x, H1, I1, r1, q1⟩ => ?_)
  obtain ⟨a, xs, ex, hx, hsz, q⟩ := q1
  subst ex
  cases r1
  refine wpAny_Slice (hl.run pins s1 σ H1 _ I1 fun vl pl s2 I2 => hh.run pins s2 σ H1 _ I2 fun vu pu s3 I3 => hk.run pins s3 σ H1 _ I3 fun vs ps s4 I4 => ?_)
  have I5 : Inv X pins σ H1 { s4 with heap := s4.heap.push { cls := .type "slice", data := .fields #[vl, vu, vs] } } := I4.kept (t' := s4.toks) fun b ob q => Heap.get?_push_of_some _ q
  obtain ⟨its, r, ht, hz⟩ := I5.tuple hx
  have hlen : its.toArray.size = xs.length := by rw [List.size_toArray]; exact r.length.symm
  show wpAny (model X.prog X.w) X.A (subscriptTail e (.Slice lo hi (some st) p3) (.ref a) (.ref s4.heap.objs.size)) (EP X pins σ Q) X.xe { s4 with heap := s4.heap.push { cls := .type "slice", data := .fields #[vl, vu, vs] } }
  refine tail_any (ops := [.ref a, .ref s4.heap.objs.size]) ht.typeIs PyProof.Rows.slot_tuple_getitem.lookup ?_ (by with_unfolding_all rfl)
  refine getItem_tuple_step ht (Heap.IsSliceOf.new _ vl vu vs) pl pu ps h0 h1 ?_ (by rw [hlen]; exact hsz)
  rw [hlen]
  refine ⟨.ref _, _, I5.laid (t' := s4.toks) (o := .tup ((stepIx ol oh k xs.length).filterMap fun m => xs[m]?)) (fun b ob q => Heap.get?_push_of_some _ q) (Nat.le_refl _) ?_, rfl, q _ (I5.hok.fresh (Nat.le_refl _))⟩
  exact ⟨Nat.le_trans (List.length_filterMap_le _ _) hsz, _, vals_pick r _, IsTup.new _ _⟩
end
end BY
namespace B
open PySem L2
open PySem.W (Tup T3 T4 Datum DatumOrd)
open Evl (Ex)
section
variable {α β γ δ : Type} [Py α] [Py β] [Py γ] [Py δ] {K : Fg} {W W' : Wd} {σ : SS} {ε : Ef} {te ta tb tc td : TE}
theorem asc_uniq : ∀ {xs ys : List Int}, xs.Pairwise (· < ·) → ys.Pairwise (· < ·) → (∀ k, k ∈ xs ↔ k ∈ ys) → xs = ys
  | [], [], _, _, _ => rfl
  | [], y :: ys, _, _, h => absurd ((h y).mpr List.mem_cons_self) (by simp)
  | x :: xs, [], _, _, h => absurd ((h x).mp List.mem_cons_self) (by simp)
  | x :: xs, y :: ys, h1, h2, h => by
    obtain ⟨a1, a2⟩ := List.pairwise_cons.mp h1
    obtain ⟨b1, b2⟩ := List.pairwise_cons.mp h2
    have e : x = y := by
      have p := (h x).mp List.mem_cons_self
      have q := (h y).mpr List.mem_cons_self
      rcases List.mem_cons.mp p with p | p
      · exact p
      · rcases List.mem_cons.mp q with q | q
        · exact q.symm
        · have := b1 x p
          have := a1 y q
          omega
    subst e
    rw [asc_uniq a2 b2 fun k => ⟨fun m => ?_, fun m => ?_⟩]
    · rcases List.mem_cons.mp ((h k).mp (List.mem_cons_of_mem _ m)) with e | e
      · subst e; have := a1 _ m; omega
      · exact e
    · rcases List.mem_cons.mp ((h k).mpr (List.mem_cons_of_mem _ m)) with e | e
      · subst e; have := b1 _ m; omega
      · exact e
theorem ev_sortSetA {xs : Tup Int} (h : EvR ε K ta σ W xs) (hl : xs.items.length ≤ 4000) (hp : xs.items.Pairwise (· < ·)) : EvR ε K (BY.tSortSet K ta) σ W xs.items := fun W1 g1 Q k => h W1 g1 _ fun v W2 g2 ⟨a, vs, e, s, r⟩ => by
  have e2 := reps_int r
  subst e2
  refine ⟨a, xs.items, e, SqT.of (W2.sub.et s), hl, fun ns p hs hm hn => ?_⟩
  rw [asc_uniq hs hp hm]
  exact k _ (W2.add p _) (g2.and (W2.grow_add hn)) ⟨p, _, rfl, upd_same, Reps.mono (exExt (W2.grow_add hn).b) r⟩
theorem ei_seqL {xs : List α} (h : EvR ε K te σ W xs) : EvJ ε K (BY.iSeq K te) σ W xs := fun W1 g1 R k => .inl (ei_list h W1 g1 R k)
theorem ei_seqT {xs : Tup α} (h : EvR ε K te σ W xs) : EvJ ε K (BY.iSeq K te) σ W xs.items := fun W1 g1 R k => .inr (ei_tup h W1 g1 R k)
/-- a tuple of four, [::2] -/
theorem ev_stepA {p : T4 α β γ δ} (h : EvR ε K te σ W p) : EvR ε K (BY.tTupStep K te none none 2) σ W (p.a, p.c) := fun W1 g1 Q k => h W1 g1 _ fun v W2 g2 ⟨a, x, y, z, w, e, s, r1, r2, r3, r4⟩ => by
  refine ⟨a, _, e, SqT.of (W2.sub.et s), (by decide : (BY.stepIx none none 2 4).length ≤ sizeLine), fun p hp => ?_⟩
  have e2 : (BY.stepIx none none 2 [x, y, z, w].length).filterMap (fun m => [x, y, z, w][m]?) = [x, z] := by
    have : BY.stepIx none none 2 4 = [0, 2] := by decide
    show (BY.stepIx none none 2 4).filterMap _ = _
    rw [this]
    rfl
  rw [e2]
  exact k _ (W2.add p _) (g2.and (W2.grow_add hp)) ⟨p, x, z, rfl, upd_same, rep_g (W2.grow_add hp) r1, rep_g (W2.grow_add hp) r3⟩
/-- a tuple of four, [2::-2] -/
theorem ev_stepB {p : T4 α β α δ} (h : EvR ε K te σ W p) : EvR ε K (BY.tTupStep K te (some 2) none (-2)) σ W (Tup.mk [p.c, p.a]) := fun W1 g1 Q k => h W1 g1 _ fun v W2 g2 ⟨a, x, y, z, w, e, s, r1, r2, r3, r4⟩ => by
  refine ⟨a, _, e, SqT.of (W2.sub.et s), (by decide : (BY.stepIx (some 2) none (-2) 4).length ≤ sizeLine), fun p hp => ?_⟩
  have e2 : (BY.stepIx (some 2) none (-2) [x, y, z, w].length).filterMap (fun m => [x, y, z, w][m]?) = [z, x] := by
    have : BY.stepIx (some 2) none (-2) 4 = [2, 0] := by decide
    show (BY.stepIx (some 2) none (-2) 4).filterMap _ = _
    rw [this]
    rfl
  rw [e2]
  exact k _ (W2.add p _) (g2.and (W2.grow_add hp)) ⟨p, [z, x], rfl, upd_same, .cons (rep_g (W2.grow_add hp) r3) (.cons (rep_g (W2.grow_add hp) r1) .nil)⟩
theorem ro_rep {xs : List α} {n : Int} (h1 : 0 ≤ n) (h2 : n ≤ 1000) (hl : xs.length ≤ 100) : RO K rRep xs n (List.replicate n.toNat xs).flatten := fun v u W1 ⟨a, vs, e, s, r⟩ ru Q k =>
  ⟨a, n, vs, e, ru, W1.sub.el s, by omega, by omega, Evl.sz_of (by rw [Reps.len r]; exact Nat.le_trans (Nat.mul_le_mul hl (show n.toNat ≤ 1000 by omega)) (by decide)), fun p hp =>
    k _ (W1.add p _) (W1.grow_add hp) ⟨p, _, rfl, upd_same, Reps.mono (exExt (W1.grow_add hp).b) (reps_rep r _)⟩⟩
theorem s_par {D : Ends} {i j : Nat} {P R : V → Wd → Prop} (ha : EvP ε ta σ W P) (hb : EvP ε tb σ W R) (s : ε.I W) (mono : ∀ v W W', Stp ε W W' → P v W → P v W')
    (k : ∀ v u W', Stp ε W W' → P v W' → R u W' → D.nx ((σ.set i (some v)).set j (some u)) W'.H) : tPar i j (tCons ta (tCons tb tNil)) D σ W.H :=
  ha W (.start s) _ fun v W1 g1 p => hb W1 g1 _ fun u W2 g2 r => ⟨v, u, rfl, k v u W2 (g1.trans g2) (mono v W1 W2 g2 p) r⟩
theorem q_par3 {D : Ends} {tz : TS} {i j l : Nat} {P R S : V → Wd → Prop} (ha : EvP ε ta σ W P) (hb : EvP ε tb σ W R) (hc : EvP ε tc σ W S) (s : ε.I W) (m1 : ∀ v W W', Stp ε W W' → P v W → P v W') (m2 : ∀ v W W', Stp ε W W' → R v W → R v W')
    (k : ∀ v u w W', Stp ε W W' → P v W' → R u W' → S w W' → tz D (((σ.set i (some v)).set j (some u)).set l (some w)) W'.H) : tSeq (tPar3 i j l (tCons ta (tCons tb (tCons tc tNil)))) tz D σ W.H :=
  ha W (.start s) _ fun v W1 g1 p => hb W1 g1 _ fun u W2 g2 r => hc W2 (g1.trans g2) _ fun w W3 g3 q => ⟨v, u, w, rfl, k v u w W3 ((g1.trans g2).trans g3) (m1 v W1 W3 (g2.trans g3) p) (m2 u W2 W3 g3 r) q⟩
end
end B
/-! BX: errors that are kept behind their except suite -/
namespace BX
open PySem PySem.Spec PyProof.Rows L2
/-- an error of the class cls that was caught stands at a -/
def ExK (cls : Value) (d : Option Addr) (a : Addr) : HO := .ext fun h => ∃ (oe : Obj) (vs : Array Value), h.get? a = some oe ∧ Zc cls d oe ∧ oe.data = .fields vs
section
variable {X : Cx} {pins : List (Addr × Obj)} {σ : L2.St} {H : Hp} {s : Shared}
/-- an object that isn't tracked is tracked from now on -/
theorem track {a : Addr} {oe : Obj} {vs : Array Value} {cls : Value} {d : Option Addr} (I : L2.Inv X pins σ H s) (ha : s.heap.get? a = some oe) (hz : Zc cls d oe) (hd : oe.data = .fields vs) (n0 : X.s_0.heap.get? a = none) (na : H a = none) (nL : a ≠ X.env.locals) (hp : ∀ p ∈ X.pn ++ pins, p.1 ≠ a) :
    L2.Inv X pins σ (upd H a (ExK cls d a)) s := by
  have ne0 : ∀ b o, X.s_0.heap.get? b = some o → b ≠ a := fun b o e z => by
    rw [z, n0] at e
    cases e
  have neS : ∀ b o, H b = some o → b ≠ a := fun b o e z => by
    rw [z, na] at e
    cases e
  refine ⟨I.ok, I.os, I.bare, ⟨I.base.keep, I.base.slot, fun b o e n hq => ?_, I.base.there, fun b xs e => ?_, fun b o u e => ?_, fun b ps e => ?_⟩, I.loc, I.cell, ?_, fun x c e => ?_, fun p hq => ?_, fun b u e => ?_, I.len⟩
  · rw [upd_ne (ne0 b o e)]
    exact I.base.free b o e n hq
  · have q := I.base.tups b xs e
    rw [upd_ne (neS b _ q)]
    exact q
  · have q := I.base.frzs b o u e
    rw [upd_ne (neS b _ q)]
    exact q
  · obtain ⟨m, q⟩ := I.base.tbls b ps e
    exact ⟨m, by rw [upd_ne (neS b _ q)]; exact q⟩
  · rw [upd_ne (Ne.symm nL)]
    exact I.free
  · have hc : c ≠ a := fun z => by
      obtain ⟨v, o, ho, hv⟩ := I.cell x c e
      rw [z, ha] at ho
      cases ho
      rw [hd] at hv
      cases hv
    rw [upd_ne hc]
    exact I.freeC x c e
  · obtain ⟨e, n, ne, nf, dd⟩ := I.pin p hq
    exact ⟨e, by rw [upd_ne (hp p hq)]; exact n, ne, nf, dd⟩
  · by_cases hb : b = a
    · subst hb
      rw [upd_same] at e
      cases e
      exact ⟨⟨oe, vs, ha, hz, hd⟩, ⟨oe, ha⟩, fun _ _ ⟨o, v, q, r⟩ k => ⟨o, v, k o q, r⟩⟩
    · rw [upd_ne hb] at e
      exact (I.hok b u e).stay (fun c v _ q => q) (fun c q => by rw [upd_ne (neS c _ q)]; exact q) fun c xs q => by rw [upd_ne (neS c _ q)]; exact q
end
/-- what the clause 'except x as n' wishes of an exception of the body, where the error stays behind the suite -/
def wAsK (K : PySem.W.Frag) (c : Value) (i : Nat) (ts : Addr → Value → Option Addr → TS) (Wout : WX) (D : Ends) : WX := fun cls d σ H =>
  ∃ b, PySem.W.exmOne K cls c = some b ∧ (b = true → ∀ a, H a = none → ts a cls d { nx := fun σ' H' => H' a = none → D.nx (σ'.set i none) (upd H' a (ExK cls d a)), rt := D.rt, bk := fun σ' H' => D.bk (σ'.set i none) H', ct := fun σ' H' => D.ct (σ'.set i none) H' } (σ.set i (some (.ref a))) H) ∧
    (b = false → Wout cls d σ H)
section
variable {X : Cx} {x n : Str} {c : Value} {i : Nat} {body suite : List Stmt} {b₀ : Stmt} {np pos pos' : Pos} {tb : WX → TS} {ts : Addr → Value → Option Addr → TS} {Wout : WX}
theorem ps_try_asK (hs : X.stack = X.env :: X.outer) (hf : X.env.frame = some X.env.locals) (hN : X.N.Nodup) (hi : X.N[i]? = some n) (hln : X.env.kindOf n = some .local) (hc : Names X x c) (tk : Takes X Wout)
    (hb : ∀ (W : WX) (pn : List (Addr × Obj)) (xe : Value → Shared → Prop), Takes (X.tr pn xe) W → PassesOwn (model X.prog X.w) X.A X.env xe → PSs (X.tr pn xe) body (tb W))
    (hsu : ∀ (a : Addr) (oe : Obj) (cls : Value) (d : Option Addr) (pn : List (Addr × Obj)), Zc cls d oe → (∃ vs, oe.data = .fields vs) → PSs (X.suite a ((a, oe) :: pn)) (b₀ :: suite) (ts a cls d)) (hex : X.ex = []) :
    PS X (.Try body [.ExceptHandler (some (.Name x np)) (some n) (b₀ :: suite) pos'] [] [] pos) (fun D σ H => tb (wAsK X.K c i ts Wout D) D σ H) := by
  refine ⟨fun pins s σ H D I h => ?_⟩
  have ok := I.ok
  have hfr : X.A.frames = some (X.env :: X.outer) := by rw [ok.frames, hs]
  have hloc : Loc X.env.scope n := .inl hln
  refine wpAny_Try_except ?_
  refine wpAny_mono ((hb (wAsK X.K c i ts Wout D) (X.pn ++ pins) (fun e s₁ => wpAny (model X.prog X.w) X.A (noteFrame e X.env) (fun _ s₂ => wpAny (model X.prog X.w) X.A (setFlight e none) (fun _ s₃ =>
    wpAny (model X.prog X.w) X.A (handleBy e X.env [.ExceptHandler (some (.Name x np)) (some n) (b₀ :: suite) pos']) (SP X pins D) X.xe s₃) X.xe s₂) X.xe s₁) (fun u s' xx => ?_) PassesOwn.looking).run [] s σ H D (I.toTry _) h) (fun f s1 hsp => ?_) (fun e s1 he => he)
  · -- the catch
    obtain ⟨a, B, sI, pins', σ', H', cls, d, rfl, J', nb, up, sky, na, os, ag, b, hb1, hyes, hno⟩ := xx
    have J : L2.Inv X pins σ' H' sI := J'.ofTry ok
    have sky' : Sky B (X.env :: X.outer) a (Zc cls d) X.env.locals s'.heap := by rw [← hs]; exact sky
    show wpAny (model X.prog X.w) X.A (noteFrame (.ref a) X.env) _ _ _
    refine Sky.land Zc.steady hfr hf sky' fun h3 fl3 up3 => ?_
    have J3 : L2.Inv X pins σ' H' { s' with heap := h3 } := J.landed nb fl3.1 (up.trans up3) os ag
    obtain ⟨oe3, vs3, he3, hz3, hd3⟩ := fl3.there
    have notFr : ∀ {h : Heap} {o : Obj} {vs : Array Value}, h.FunFrames B (X.env :: X.outer) → h.get? a = some o → o.data = .fields vs → a ∉ frs (X.env :: X.outer) := fun {h o vs} ff e dd hm => by
      obtain ⟨_, o', e', hnf⟩ := ff.mem hm
      rw [e] at e'; cases e'
      exact hnf _ dd
    have nfr := notFr fl3.2.2.1 he3 hd3
    have nI : sI.heap.get? a = none := by
      cases q : sI.heap.get? a with
      | none => rfl
      | some o =>
        have z := nb a o q (by rw [hs]; exact nfr)
        rw [fl3.2.1] at z
        cases z
    have n0 : X.s_0.heap.get? a = none := by
      cases q : X.s_0.heap.get? a with
      | none => rfl
      | some o =>
        obtain ⟨o', z⟩ := J.base.there a o q (by rw [hex]; exact fun z => nomatch z)
        rw [nI] at z
        cases z
    have npin : ∀ p ∈ X.pn ++ pins, p.1 ≠ a := fun p hp z => by
      have q := (J.pin p hp).1
      rw [z, nI] at q
      cases q
    have nL : a ≠ X.env.locals := fun z => nfr (List.mem_filterMap.mpr ⟨X.env, List.mem_cons_self, by rw [hf, z]⟩)
    have nF : a ∉ X.fs := fun hm => by
      obtain ⟨e, he, q⟩ := List.mem_filterMap.mp hm
      exact nfr (List.mem_filterMap.mpr ⟨e, List.mem_cons_of_mem _ he, q⟩)
    have S3 := J3.suite he3 hd3 na nL nF
    refine wpAny_handleBy_cons (codeAny_handlers_test ?_) (by intro q; cases q)
    have LT : PySem.W.Looks (model X.prog X.w) h3 (typeOf (.ref a)) cls := fun A Q E s k q => wpAny_typeOf_ref (k _ _ he3) (by rw [hz3.1]; exact q)
    have LM := PySem.W.exm_one (M := model X.prog X.w) (J3.kIn) LT hb1
    have test : ∀ {Q : Value → Shared → Prop} {E : Value → Shared → Prop}, Q c { s' with heap := h3 } → wpAny (model X.prog X.w) (X.A.mark (some (.ref a))) (eval (.Name x np) X.env) Q E { s' with heap := h3 } := fun {Q E} q => by
      obtain ⟨hg, hdbg, hm | ⟨hm, hv, hnn⟩⟩ := hc
      · exact ld_glob (X := X.suite a ((a, oe3) :: (X.pn ++ pins))) S3 hg hm q hdbg
      · exact ld_blt (X := X.suite a ((a, oe3) :: (X.pn ++ pins))) S3 hg hm hv q hnn hdbg
    refine test (LM.here ?_)
    cases b with
    | true =>
      refine codeAny_handlers_suite_as ?_
      refine HandSPX.lands_againZ fl3 fun h4 fl4 up4 => ?_
      have J4 : L2.Inv X pins σ' H' { s' with heap := h4 } := J.landed nb fl4.1 ((up.trans up3).trans up4) os ag
      obtain ⟨oe4, vs4, he4, hz4, hd4⟩ := fl4.there
      have S4 := J4.suite he4 hd4 na nL nF
      refine store_ok (X := X.suite a ((a, oe4) :: (X.pn ++ pins))) (v := .ref a) S4 hN hi hloc rfl (fun s5 S5 => ?_) (.inr hln)
      refine wpAny_mono ((hsu a oe4 cls d (X.pn ++ pins) hz4 ⟨_, hd4⟩).run [] s5 _ H' _ S5 (hyes rfl a na)) (fun f s6 hsp => ?_) (fun _ _ z => False.elim z)
      have end_ : ∀ {σ6 : L2.St} {H6 : Hp} {Q : Shared → Prop}, L2.Inv X pins σ6 H6 s6 → (∀ s7, L2.Inv X pins (σ6.set i none) H6 s7 → Q s7) →
          wpAny (model X.prog X.w) X.A (do bindName X.env n .none; unbindBehindTheSuite X.env n pos') (fun _ s7 => Q s7) X.xe s6 := fun {σ6 H6 Q} S6 hq => gone_ok S6 hN hi hln hq
      cases f with
      | next =>
        obtain ⟨σ6, H6, S6, q6⟩ := hsp
        obtain ⟨p1, p2, _⟩ := S6.pin (a, oe4) (List.mem_append_left _ List.mem_cons_self)
        exact end_ (track (S6.unsuite ok) p1 hz4 hd4 n0 p2 nL npin) fun s7 J7 => ⟨_, _, J7, q6 p2⟩
      | brk =>
        obtain ⟨σ6, H6, S6, q6⟩ := hsp
        exact end_ (S6.unsuite ok) fun s7 J7 => ⟨_, _, J7, q6⟩
      | cont =>
        obtain ⟨σ6, H6, S6, q6⟩ := hsp
        exact end_ (S6.unsuite ok) fun s7 J7 => ⟨_, _, J7, q6⟩
      | ret u =>
        obtain ⟨v6, σ6, H6, S6, r6, q6⟩ := hsp
        exact end_ (S6.unsuite ok) fun s7 J7 => ⟨_, _, _, J7, r6, q6⟩
    | false =>
      show wpAny _ X.A (handleBy (.ref a) X.env []) _ _ _
      refine wpAny_handleBy_nil ?_
      obtain ⟨k1, k2, k3, oe, vs, T, oT, ts', he, hz, hd, h1, hr⟩ := id fl3
      unfold PySem.passOn
      refine wpAny_bind (wpAny_field he hd h1 ?_)
      rw [if_neg (show ¬ ((Value.ref T == Value.none) = true) from by simp)]
      have fin : wpAny (model X.prog X.w) X.A (setFlight (.ref a) X.env.frame) (fun _ s4 => wpAny (model X.prog X.w) X.A (throw (.ref a) : Sem Flow) (SP X pins D) X.xe s4) X.xe { s' with heap := h3 } := by
        rw [hf]
        refine HandSPX.setFlight_upZ fl3 fun h4 hh4 up4 => wpAny_throw (tk _ _ ?_)
        exact ⟨a, B, sI, pins, σ', H', cls, d, rfl, J, nb, (up.trans up3).trans up4, .inr (.inr (by rw [hs]; exact hh4)), na, os, ag, hno rfl⟩
      first
        | exact wpAny_bind (wpAny_pure (wpAny_bind fin))
        | exact wpAny_bind fin
  · cases f with
    | next =>
      obtain ⟨σ', H', J', q⟩ := hsp
      exact wpAny_execs_nil ⟨σ', H', J'.ofTry ok, q⟩
    | brk =>
      obtain ⟨σ', H', J', q⟩ := hsp
      exact ⟨σ', H', J'.ofTry ok, q⟩
    | cont =>
      obtain ⟨σ', H', J', q⟩ := hsp
      exact ⟨σ', H', J'.ofTry ok, q⟩
    | ret u =>
      obtain ⟨v, σ', H', J', r, q⟩ := hsp
      exact ⟨v, σ', H', J'.ofTry ok, r, q⟩
end
/-- isinstance(e, c), e an error that was kept -/
def rIsK (K : PySem.W.Frag) : List V → Hp → VK → Prop := fun xs H Q => ∃ (a D : Addr) (c : V) (cv : Value) (b : Bool), xs = [.ref a, c] ∧ H a = some (ExK (.ref D) none a) ∧ ExcC K D ∧ (∀ u, RelV c u → u = cv) ∧ PySem.W.kitOne K (.ref D) cv = some b ∧ Q (.bl b) H
theorem call_isK {X : Cx} : CallR X (.builtin "isinstance") (rIsK X.K) := by
  intro pins s σ H xs us Q I r h
  obtain ⟨a, D, c, cv, b, rfl, ha, C, hcv, e, q⟩ := h
  cases r with
  | cons rx rr =>
    cases rr with
    | cons rt rr =>
      cases rr
      cases rx
      have ec := hcv _ rt
      subst ec
      obtain ⟨oe, vs, hget, hz, hv⟩ := (I.hok a _ ha).1
      have J : PySem.W.InstAt s.heap a oe D none := by
        obtain ⟨oc, od, oda, osl⟩ := oe
        obtain ⟨h1, h2⟩ := hz
        dsimp only at h1 h2 hv
        subst h1 h2 hv
        exact ⟨hget, rfl, rfl, trivial⟩
      exact PySem.W.kia_one (PySem.W.handS_kitx_exc C.hg C.hk C.hs C.hd C.ha C.hn C.ht C.hm) I.kIn J e (fun z => nomatch z) fun tk => ⟨.bl b, H, I.kept (t' := tk) fun _ _ z => z, rfl, q⟩
/-- an error's class, over ValueError, without an __init__ of its own -/
structure ErrC (K : PySem.W.Frag) (C : Addr) : Prop where
  k : PySem.W.keepIn K (.ref C) = true
  q : PySem.W.excIn K C [.type "ValueError", .type "Exception", .type "BaseException", .type "object"] "ValueError.__new__" = true
  s : PySem.W.subIn K (.ref C) (.type "BaseException") = some true
  t : PySem.W.typeIn K (.ref C) = some (.type "type")
  e : PySem.W.exmOne K (.ref C) (.ref C) = some true
  c : ExcC K C
  v : PySem.W.kitOne K (.ref C) (.type "ValueError") = some true
/-- an error of the class at S is what «except S» names -/
theorem exm_self {K : PySem.W.Frag} {S : Addr} (h1 : PySem.W.subIn K (.ref S) (.type "BaseException") = some true) (h2 : PySem.W.isClsIn K S = true) (h3 : PySem.W.typeIn K (.ref S) = some (.type "type")) (h4 : PySem.W.subIn K (.ref S) (.ref S) = some true) :
    PySem.W.exmOne K (.ref S) (.ref S) = some true := by
  have e1 : (PySem.W.subIn K (.ref S) (.type "BaseException") == some true) = true := by rw [h1] <;> rfl
  have e2 : ((PySem.W.clsIn K S).isSome && PySem.W.typeIn K (.ref S) == some (.type "type")) = true := by
    have h2' : (PySem.W.clsIn K S).isSome = true := h2
    rw [h2', h3] <;> rfl
  show (if (PySem.W.subIn K (.ref S) (.type "BaseException") == some true) = true then (if ((PySem.W.clsIn K S).isSome && PySem.W.typeIn K (.ref S) == some (.type "type")) = true then PySem.W.subIn K (.ref S) (.ref S) else none) else none) = some true
  rw [if_pos e1, if_pos e2]
  exact h4
theorem kit_ve {K : PySem.W.Frag} {C : Addr} {T : String} (hm : PySem.W.kitMeta T = true) (h : PySem.W.subIn K (.ref C) (.type T) = some true) : PySem.W.kitOne K (.ref C) (.type T) = some true := by
  unfold PySem.W.kitOne
  rw [if_neg (show ¬ ((Value.ref C == Value.type T) = true) from fun z => by have := eq_of_beq z; cases this)]
  show (if PySem.W.kitMeta T = true then _ else _) = _
  rw [if_pos hm]
  exact h
/-- raise C('..') out of a def -/
abbrev tRaiseO (C : Addr) (E : XK) : TS := fun _ _ H => E (.ref C) none H
/-- try: body, except C as n (slot i): suite -/
abbrev tTryK (K : PySem.W.Frag) (C : Addr) (i : Nat) (tb : WX → TS) (ts : Addr → Value → Option Addr → TS) : TS := fun D σ H => tb (wAsK K (.ref C) i ts (fun _ _ _ _ => False) D) D σ H
theorem ps_raiseO {X : Cx} {E : XK} {C : Addr} {x m : Str} {j : Nat} {p p2 pos pos2 : Pos} {E₁ : Value → Shared → Prop} (c : ErrC X.K C) (g : X.mg x = some (.ref C)) (hc : X.calm = true) (hs : X.stack = X.env :: X.outer) (hf : X.env.frame = some X.env.locals) (hex : X.ex = [])
    (hx : X.xe = fun e s' => wpAny (model X.prog X.w) X.A (leaving X.env e) (fun _ s'' => L2.CX X.prog X.w X.outer X.H_0 X.s_0 E e s'') E₁ s') (hg : Gl X x) (hdb : (x == ("__debug__" : Str)) = false := by decide) :
    PS X (.Raise (some (.Call (.Name x p) [.Constant (.str m) j p2] [] pos)) none pos2) (tRaiseO C E) :=
  ps_raise hc (takes_of hs hf hex hx) (pmk_own PySem.F.excBase_ValueError c.q g c.k (raises_own c.s c.t) hg hdb)
end BX
/-! B: shifts; odd things of any kind; slices of a tuple of four -/
namespace B
open PySem L2
open PySem.W (Tup T3 T4 Datum DatumOrd)
open Evl (Ex)
abbrev oShl : R2 := rI CPow fun i j => .int (i * 2 ^ j.toNat)
abbrev oShr : R2 := rI (fun _ j => 0 ≤ j) fun i j => .int (i / 2 ^ j.toNat)
abbrev oAnd : R2 := rI0 fun i j => .int (Builtin.bitAnd i j)
/-- a thing of any kind -/
inductive Odd where
  | int (n : Int) | bl (b : Bool) | non | str (s : Str) | tup (ns : List Int) | lst (ns : List Int) | dct
def oRep (K : Fg) (H : Hp) (v : V) : Odd → Prop
  | .int n => rep K H v n
  | .bl b => rep K H v b
  | .non => rep K H v ()
  | .str s => rep K H v s
  | .tup n => rep K H v (Tup.mk n)
  | .lst n => rep K H v n
  | .dct => rep K H v (⟨[]⟩ : Dict Int Int)
theorem oRep_mono {K : Fg} {H H' : Hp} {v : V} (e : Ext H H') : ∀ {o : Odd}, oRep K H v o → oRep K H' v o
  | .int n, h => Py.mono (α := Int) e h
  | .bl b, h => Py.mono (α := Bool) e h
  | .non, h => Py.mono (α := Unit) e h
  | .str s, h => Py.mono (α := Str) e h
  | .tup n, h => Py.mono (α := Tup Int) e h
  | .lst n, h => Py.mono (α := List Int) e h
  | .dct, h => Py.mono (α := Dict Int Int) e h
instance : Py Odd := ⟨oRep, fun e h => oRep_mono e h⟩
def Odd.cls : Odd → String
  | .int _ => "int" | .bl _ => "bool" | .non => "NoneType" | .str _ => "str" | .tup _ => "tuple" | .lst _ => "list" | .dct => "dict"
theorem ty_dct {K : Fg} {κ α : Type} [PyKey κ] [Py α] {d : Dict κ α} (W1 : Wd) (v : V) (h : rep K W1.B v d) : TyX K W1.H v (.type "dict") := by
  obtain ⟨a, ks, rfl, h1, _⟩ := h
  rcases W1.sub.rd h1 with z | ⟨o, z⟩
  · exact .base (.dK z)
  · exact .fDict z
theorem ty_odd {K : Fg} (W1 : Wd) (v : V) : ∀ (o : Odd), rep K W1.B v o → TyX K W1.H v (.type o.cls)
  | .int n, h => ty_int W1 v h
  | .bl b, h => ty_bl W1 v h
  | .non, h => ty_non W1 v h
  | .str s, h => ty_str W1 v h
  | .tup n, h => ty_tup W1 v h
  | .lst n, h => ty_lst W1 v h
  | .dct, h => ty_dct W1 v h
def Odd.isI : Odd → Bool
  | .int _ => true | .bl _ => true | _ => false
def Odd.isB : Odd → Bool
  | .bl _ => true | _ => false
theorem odd_kitI : ∀ o : Odd, kitB o.cls "int" = some o.isI
  | .int _ => (by decide +kernel : kitB "int" "int" = some true)
  | .bl _ => (by decide +kernel : kitB "bool" "int" = some true)
  | .non => (by decide +kernel : kitB "NoneType" "int" = some false)
  | .str _ => (by decide +kernel : kitB "str" "int" = some false)
  | .tup _ => (by decide +kernel : kitB "tuple" "int" = some false)
  | .lst _ => (by decide +kernel : kitB "list" "int" = some false)
  | .dct => (by decide +kernel : kitB "dict" "int" = some false)
theorem odd_kitB : ∀ o : Odd, kitB o.cls "bool" = some o.isB
  | .int _ => (by decide +kernel : kitB "int" "bool" = some false)
  | .bl _ => (by decide +kernel : kitB "bool" "bool" = some true)
  | .non => (by decide +kernel : kitB "NoneType" "bool" = some false)
  | .str _ => (by decide +kernel : kitB "str" "bool" = some false)
  | .tup _ => (by decide +kernel : kitB "tuple" "bool" = some false)
  | .lst _ => (by decide +kernel : kitB "list" "bool" = some false)
  | .dct => (by decide +kernel : kitB "dict" "bool" = some false)
section
variable {α β γ δ : Type} [Py α] [Py β] [Py γ] [Py δ] {K : Fg} {W W' : Wd} {σ : SS} {ε : Ef} {te ta tb tc td : TE}
theorem ev_oI {n : Int} (h : EvR ε K te σ W n) : EvR ε K te σ W (Odd.int n) := h
theorem ev_oB {n : Bool} (h : EvR ε K te σ W n) : EvR ε K te σ W (Odd.bl n) := h
theorem ev_oN (h : EvR ε K te σ W ()) : EvR ε K te σ W Odd.non := h
theorem ev_oS {n : Str} (h : EvR ε K te σ W n) : EvR ε K te σ W (Odd.str n) := h
theorem ev_oT {n : List Int} (h : EvR ε K te σ W (Tup.mk n)) : EvR ε K te σ W (Odd.tup n) := h
theorem ev_oL {n : List Int} (h : EvR ε K te σ W n) : EvR ε K te σ W (Odd.lst n) := h
theorem ev_oD (h : EvD ε K te σ W (⟨[]⟩ : Dict Int Int)) : EvR ε K te σ W Odd.dct := h.rep
/-- [:2] and [2:] of a tuple of four -/
theorem ev_slQa {p : T4 α β γ δ} (h : EvR ε K te σ W p) : EvR ε K (tSl (rSlA K) te tNoPart (tPart (tC (.int 2)))) σ W (p.a, p.b) := fun W1 g1 Q k => h W1 g1 _ fun v W2 g2 ⟨a, x, y, z, w, e, s, r1, r2, r3, r4⟩ =>
  ⟨2, rfl, a, [x, y, z, w], e, SqT.of (W2.sub.et s), fun h0 => absurd h0.2 (by show ¬ (min 2 4 = 4); decide), fun _ p hp => k _ (W2.add p (.tup [x, y])) (g2.and (W2.grow_add hp)) ⟨p, x, y, rfl, upd_same, rep_g (W2.grow_add hp) r1, rep_g (W2.grow_add hp) r2⟩⟩
theorem ev_slQb {p : T4 α β γ δ} (h : EvR ε K te σ W p) : EvR ε K (tSl (rSlA K) te (tPart (tC (.int 2))) tNoPart) σ W (p.c, p.d) := fun W1 g1 Q k => h W1 g1 _ fun v W2 g2 ⟨a, x, y, z, w, e, s, r1, r2, r3, r4⟩ =>
  ⟨2, rfl, a, [x, y, z, w], e, SqT.of (W2.sub.et s), fun h0 => absurd h0.1 (by show ¬ (min 2 4 = 0); decide), fun _ p hp => k _ (W2.add p (.tup [z, w])) (g2.and (W2.grow_add hp)) ⟨p, z, w, rfl, upd_same, rep_g (W2.grow_add hp) r3, rep_g (W2.grow_add hp) r4⟩⟩
theorem rc_min {xs : List Int} {m : Int} (h1 : m ∈ xs) (h2 : ∀ y ∈ xs, m ≤ y) : RC1 K (rMin K) xs m := fun v W1 ⟨a, vs, e, s, r⟩ Q k => ⟨a, xs, by rw [e], by rw [← reps_int r]; exact SqL.of (W1.sub.el s), List.length_pos_of_mem h1, fun m' h3 h4 => by
  have : m' = m := Int.le_antisymm (h4 m h1) (h2 m' h3)
  rw [this]
  exact k _ W1 (.refl _ _) rfl⟩
end
end B
/-! BY: a set made of a list, by what its filling promises -/
namespace BY
open PySem PySem.Spec PyProof.Rows L2
section
variable {P : Program} {w : World} {A : Around} {E : Value → Shared → Prop} {s : Shared}
abbrev set0 (w : World) : Obj := { cls := .type "set", dict := none, data := .set #[] 0 (.fresh 0 0 (!w.params.followText "set-order")) }
abbrev it0 (l : Addr) : Obj := { cls := .type "list_iterator", data := .fields #[.ref l, .int 0 0] }
set_option maxHeartbeats 8000000 in
theorem set_of_list {l : Addr} {items : Array Value} {Q : Value → Shared → Prop} {Pz : Heap → Nat → Prop} (hl : s.heap.IsList l items)
    (hloop : ∀ R : Result → Shared → Prop, (∀ h' tk, Pz h' tk → R (.ok (.ret .none)) { s with heap := h', toks := tk }) →
      codeAny (model P w) A.in1.in1 (.builtin "set.update.loop" ⟨[.ref s.heap.objs.size, .ref (s.heap.push (set0 w)).objs.size], []⟩) R { s with heap := (s.heap.push (set0 w)).push (it0 l) })
    (h : ∀ h' tk, Pz h' tk → Q (.ref s.heap.objs.size) { s with heap := h', toks := tk }) : wpAny (model P w) A (call (.type "set") [.ref l]) Q E s := by
  obtain ⟨c, tl, hmro⟩ := F.called_set.mro
  have i1 := F.called_set.made
  have i2 := F.called_set.sub
  have i3 := F.called_set.notType
  have i4 := F.called_set.canCreate
  have i5 := F.typeCall_set_1 (.ref l)
  refine wpAny_call (codeAny_of_tree ?_)
  show wpAny _ _ (callAny (.type "set") _) _ _ _
  refine wpAny_pure ⟨Code.quiet_builtin _ (by decide +kernel), codeAny_builtin F.entry_type_call ?_⟩
  rw [Around.under_plain (weight_type_call_type "set" [.ref l] []) rfl]
  repeat (any_goals (first | assumption | wp_step))
  refine codeAny_mono (code_set_led1 (.ref l) (E := E) (Q₁ := fun x t => x = .ref s.heap.objs.size ∧ t = { s with heap := s.heap.push (set0 w) }) ⟨rfl, rfl⟩) fun r t hr => ?_
  match r, hr with
  | .error e, hr => exact hr
  | .ok .next, hr => exact hr.elim
  | .ok .brk, hr => exact hr.elim
  | .ok .cont, hr => exact hr.elim
  | .ok (.ret x), hr =>
    obtain ⟨rfl, rfl⟩ := hr
    have at0 : (s.heap.push (set0 w)).get? s.heap.objs.size = some (set0 w) := Heap.get?_push_size _ rfl
    have ty0 : Shared.TypeIs { s with heap := s.heap.push (set0 w) } (.ref s.heap.objs.size) "set" := ⟨_, at0, rfl⟩
    have j1 := F.called_set.init.lookup
    have j2 := F.called_set.init.bind (.ref s.heap.objs.size)
    repeat (any_goals (first | assumption | wp_step))
    refine codeAny_mono (codeAny_call_builtin (R := wants (fun r t => r = .none ∧ ∃ h' tk, t = { s with heap := h', toks := tk } ∧ Pz h' tk) E) F.called_set.init.plain F.entry_set_init (check_set_init_1 ty0 ?_)) fun r t hr => ?_
    · obtain ⟨⟨oc, od, oda, osl⟩, ho, hc, ne, hd⟩ := hl
      simp only at hc hd
      subst hc
      subst hd
      have ho' : (s.heap.push (set0 w)).get? l = some { cls := .type "list", dict := od, data := .seq items ne, slots := osl } := Heap.get?_push_of_some _ ho
      have k1 := F.sub_list_set
      have k2 := F.sub_list_frozenset
      have k3 : (Value.type "list" == Value.type "dict") = false := by decide
      have il : (s.heap.push (set0 w)).IsList l items := ⟨_, ho', rfl, ne, rfl⟩
      unfold Builtin.«set.__init__» noKeywords Builtin.Frozenset.updateFrom
      generalize hPI : pyIter = PI
      wp_walk
      subst hPI
      refine wpAny_pyIter_list il (wpAny_bind (wpAny_runValue (hloop _ fun h' tk q => ?_)))
      show wpAny _ _ _ _ _ _
      refine wpAny_pure ?_
      show wpAny _ _ (ret Value.none) _ _ _
      exact wpAny_pure ⟨rfl, h', tk, rfl, q⟩
    · match r, hr with
      | .error e, hr => exact hr
      | .ok .next, hr => exact hr.elim
      | .ok .brk, hr => exact hr.elim
      | .ok .cont, hr => exact hr.elim
      | .ok (.ret x), hr =>
        obtain ⟨rfl, h', tk, rfl, q⟩ := hr
        repeat (any_goals (first | assumption | wp_step))
        exact h _ _ q
/-- set(xs), a list of ints -/
theorem set_listI {l : Addr} {items : Array Value} {ns : List Int} {Q : Value → Shared → Prop} (hh : A.handled = none) (hl : s.heap.IsList l items) (hit : IntsAre items.toList ns) (hb : ns.length + 1 < scanBound)
    (h : ∀ (h' : Heap) (tk c : Nat), SetR w h' s.heap.objs.size (fun j => decide (j ∈ ns)) c → c ≤ ns.length → (∀ b o, s.heap.get? b = some o → h'.get? b = some o) → Q (.ref s.heap.objs.size) { s with heap := h', toks := tk }) :
    wpAny (model P w) A (call (.type "set") [.ref l]) Q E s := by
  have hn : items.size = ns.length := by
    have := IntsAre.length hit
    rwa [Array.length_toList] at this
  have lt : l < s.heap.objs.size := by
    obtain ⟨o, ho, _⟩ := hl
    exact Heap.lt_size ho
  have sz : (s.heap.push (set0 w)).objs.size = s.heap.objs.size + 1 := Heap.size_push ..
  have at0 : (s.heap.push (set0 w)).get? s.heap.objs.size = some (set0 w) := Heap.get?_push_size _ rfl
  refine set_of_list (Pz := fun h' tk => ∃ c, SetR w h' s.heap.objs.size (fun j => decide (j ∈ ns)) c ∧ c ≤ ns.length ∧ ∀ b o, s.heap.get? b = some o → h'.get? b = some o) hl (fun R k => ?_) fun h' tk ⟨c, q1, q2, q3⟩ => h h' tk c q1 q2 q3
  have il : (s.heap.push (set0 w)).IsList l items := hl.push _
  refine set_update_ints ((Walks.list (by simp [hh]) (s.heap.push (set0 w)).objs.size l (by rw [sz]; exact Nat.ne_of_lt (Nat.lt_succ_of_lt lt)) items).toS) s.heap.objs.size (by rw [sz]; simp only [List.mem_cons, List.not_mem_nil, or_false, not_or]; exact ⟨Nat.ne_of_lt (Nat.lt_succ_self _), Nat.ne_of_gt lt⟩) ns hn hb (fun i v hv => ?_) items.size 0 _ (by omega) (Nat.zero_le _)
    ⟨⟨_, Heap.get?_push_size _ rfl, rfl, rfl⟩, il.push _⟩ ⟨0, Nat.le_refl _, setR_new_at (Heap.get?_push_of_some _ at0)⟩ fun s' c m hc hS => ?_
  · have hi : i < ns.length := by rw [← hn]; exact (Array.getElem?_eq_some_iff.mp hv).1
    obtain ⟨t, e⟩ := PyProof.Rows.IntsAre.int_at hit i v (by rw [Array.getElem?_toList]; exact hv)
    refine ⟨ns[i], t, List.getElem?_eq_getElem hi, ?_⟩
    rw [e, List.getD_eq_getElem?_getD, List.getElem?_eq_getElem hi]
    rfl
  · obtain ⟨h', g', d', tk', os'⟩ := s'
    obtain rfl : g' = s.gens := m.gens
    obtain rfl : d' = s.drawn := m.drawn
    obtain rfl : os' = s.os := m.os
    refine k h' tk' ⟨c, hS, by rw [← hn]; exact hc, fun b o e => ?_⟩
    have hb0 := Heap.lt_size e
    exact m.heap b o (by rw [sz]; simp only [List.mem_cons, List.not_mem_nil, or_false, not_or]; exact ⟨Nat.ne_of_lt hb0, Nat.ne_of_lt (Nat.lt_succ_of_lt hb0)⟩) (Heap.get?_push_of_some _ (Heap.get?_push_of_some _ e))
end
section
variable {X : Cx} {tg : Expr}
/-- sorted(set(xs)), a list of ints -/
def tSortSetL (K : PySem.W.Frag) (ta : TE) : TE := fun σ H Q => ta σ H fun x H1 => ∃ (l : Addr) (ns : List Int), x = .ref l ∧ SqL K H1 l (ns.map V.int) ∧ ns.length ≤ 4000 ∧
  ∀ (ns' : List Int) (p : Addr), ns'.Pairwise (· < ·) → (∀ k, k ∈ ns' ↔ k ∈ ns) → H1 p = none → Q (.ref p) (upd H1 p (.lst (ns'.map V.int)))
theorem pe_sortSetL {a : Expr} {ta : TE} {p p2 q pos : Pos} (hg : Gl X "sorted") (hm : X.mg "sorted" = none) (hg2 : Gl X "set") (hm2 : X.mg "set" = none) (ha : PE X a ta) (hc : X.calm = true := by rfl)
    (na : starEach [a] X.env = (false, eval a X.env) :: starEach [] X.env := by rfl) : PE X (.Call (.Name "sorted" p) [.Call (.Name "set" p2) [a] [] q] [] pos) (tSortSetL X.K ta) := by
  refine ⟨fun pins s σ H Q I h => ?_⟩
  refine Call_ (ld_blt I hg hm (show bootBuiltins "sorted" = some (.builtin "sorted") by decide +kernel) ?_)
  refine PyProof.Rows.callWith_builtin1 (PyProof.Rows.args_cons ?_ rfl) rfl rfl
  refine Call_ (ld_blt I hg2 hm2 boot_set ?_)
  refine PyProof.Rows.callWith_type1 (PyProof.Rows.args_cons (thn (ha.run pins s σ H _ I h) fun v s1 ⟨x, H1, I1, r1, q1⟩ => PyProof.Rows.args_nil ?_) na) na rfl
  obtain ⟨l, ns, rfl, hq, hl, q1⟩ := q1
  cases r1
  obtain ⟨its, r, pl, hz⟩ := I1.list hq
  refine set_listI (I1.ok.hd hc) (items := its.toArray) pl.isList (by simpa using r.ints) (by unfold scanBound; omega) fun h' tk c hS hc' hk => ?_
  refine PyProof.Rows.args_nil ?_
  exact set_sorted (I1.kept hk) hS (by omega) hc q1
/-- enumerate of a row that is a list or a tuple -/
def iEnumSeq (K : PySem.W.Frag) (ta : TA) : TI := fun σ H R => (iEnum K ta σ H R) ∨ (B.iEnumT K ta σ H R)
theorem pi_enumSeq {e : Expr} {ta : TA} {p pos tpos : Pos} {elts : List Expr} {kk : Nat} (hg : Gl X "enumerate") (hm : X.mg "enumerate" = none) (ha : PA X [e] ta) (hs : starEach [e] X.env = [(false, eval e X.env)] := by rfl) :
    PI X (.Tuple elts kk tpos) (.Call (.Name "enumerate" p) [e] [] pos) (iEnumSeq X.K ta) := by
  refine ⟨fun pins s σ H R I h => ?_⟩
  rcases h with h | h
  · exact (pi_enum hg hm ha hs).run pins s σ H R I h
  · exact (B.pi_enumT hg hm ha hs).run pins s σ H R I h
end
end BY
/-! B: values of which something is known, not all (what draws make) -/
namespace B
open PySem L2
open PySem.W (Tup T3 T4 Datum DatumOrd)
open Evl (Ex)
/-- the expression gives some x of which P tells -/
def EvX {α : Type} [Py α] (ε : Ef) (K : Fg) (te : TE) (σ : SS) (W : Wd) (P : α → Prop) : Prop := EvP ε te σ W (fun v W' => ∃ x : α, P x ∧ rep K W'.B v x)
def EvAsX {α : Type} [Py α] (ε : Ef) (K : Fg) (ta : TA) (σ : SS) (W : Wd) (n : Nat) (P : α → Prop) : Prop :=
  ∀ W1, Stp ε W W1 → ∀ Q : List V → Hp → Prop, (∀ vs W2 (xs : List α), Stp ε W1 W2 → Reps K W2.B vs xs → xs.length = n → (∀ x ∈ xs, P x) → Q vs W2.H) → ta σ W1.H Q
section
variable {α β γ : Type} [Py α] [Py β] [Py γ] {K : Fg} {σ : SS} {W : Wd} {ε : Ef} {te ta tb : TE} {tr : TA} {tt : TT} {P P' : α → Prop} {R : β → Prop} {S : γ → Prop}
theorem ex_of {x : α} (h : EvR ε K te σ W x) (p : P x) : EvX ε K te σ W P := fun W1 g1 Q k => h W1 g1 _ fun v W2 g2 r => k v W2 g2 ⟨x, p, r⟩
theorem EvX.imp (h : EvX ε K te σ W P) (i : ∀ x, P x → P' x) : EvX ε K te σ W P' := fun W1 g1 Q k => h W1 g1 _ fun v W2 g2 ⟨x, p, r⟩ => k v W2 g2 ⟨x, i x p, r⟩
theorem ex_op {r : R2} (ha : EvX ε K ta σ W P) (hb : EvX ε K tb σ W R) (ho : ∀ x y, P x → R y → ∃ z, S z ∧ RO K r x y z) : EvX ε K (tOp r ta tb) σ W S := fun W1 g1 Q k =>
  ha W1 g1 _ fun v W2 g2 ⟨x, px, rx⟩ => hb W2 (g1.trans g2) _ fun u W3 g3 ⟨y, py, ry⟩ => by
    obtain ⟨z, sz, o⟩ := ho x y px py
    exact o v u W3 (rep_s g3 rx) ry Q fun w W4 g4 rw => k w W4 (g2.trans (g3.and g4)) ⟨z, sz, rw⟩
theorem ex_cb1 {r : List V → Hp → VK → Prop} (ha : EvX ε K ta σ W P) (ho : ∀ x, P x → ∃ y, R y ∧ RC1 K r x y) : EvX ε K (tCB r (tCons ta tNil)) σ W R := fun W1 g1 Q k =>
  ha W1 g1 _ fun v W2 g2 ⟨x, px, rx⟩ => by
    obtain ⟨y, sy, o⟩ := ho x px
    exact o v W2 rx Q fun w W4 g4 rw => k w W4 (g2.and g4) ⟨y, sy, rw⟩
theorem ex_if {b : Bool} (h : EvT ε tt σ W b) (h1 : b = true → EvX ε K ta σ W P) (h2 : b = false → EvX ε K tb σ W P) : EvX ε K (tIf tt ta tb) σ W P := fun W1 g1 Q k => h W1 g1 _ fun W2 g2 => by
  cases b with
  | true => exact h1 rfl W2 (g1.trans g2) _ fun v W3 g3 r => k v W3 (g2.trans g3) r
  | false => exact h2 rfl W2 (g1.trans g2) _ fun v W3 g3 r => k v W3 (g2.trans g3) r
theorem exa_nil : EvAsX ε K tNil σ W 0 P := fun W1 g1 Q k => k [] W1 [] g1.rf .nil rfl (fun x h => by cases h)
theorem exa_cons {n : Nat} (h : EvX ε K te σ W P) (hr : EvAsX ε K tr σ W n P) : EvAsX ε K (tCons te tr) σ W (n + 1) P := fun W1 g1 Q k =>
  h W1 g1 _ fun v W2 g2 ⟨x, px, rx⟩ => hr W2 (g1.trans g2) _ fun vs W3 xs g3 rs hl hp => k (v :: vs) W3 (x :: xs) (g2.trans g3) (.cons (rep_s g3 rx) rs) (by rw [List.length_cons, hl]) (fun y hy => by
    rcases List.mem_cons.mp hy with e | e
    · rw [e]; exact px
    · exact hp y e)
theorem ex_lst {n : Nat} {ta : TA} (h : EvAsX ε K ta σ W n P) (hl : n ≤ 100000) : EvX ε K (tLst ta) σ W (fun xs : List α => xs.length = n ∧ ∀ x ∈ xs, P x) := fun W1 g1 Q k =>
  h W1 g1 _ fun vs W2 xs g2 rs hn hp => ⟨Evl.sz_of (by rw [Reps.len rs, hn]; exact hl), fun p hq => k _ (W2.add p (.lst vs)) (g2.and (W2.grow_add hq)) ⟨xs, ⟨hn, hp⟩, p, vs, rfl, upd_same, Reps.mono (exExt (W2.grow_add hq).b) rs⟩⟩
/-- an item at a drawn place -/
theorem ep_ixD {xs : List α} (h : EvR ε K ta σ W xs) (hi : EvP ε tb σ W (fun v _ => ∃ r, v = .int r ∧ 0 ≤ r ∧ r < (xs.length : Int))) : EvX ε K (tOp (rIxL K) ta tb) σ W (fun y => y ∈ xs) := fun W1 g1 Q k =>
  h W1 g1 _ fun a W2 g2 ra => hi W2 (g1.trans g2) _ fun u W3 g3 ⟨r, e, h0, h1⟩ => by
    obtain ⟨j, hj⟩ : ∃ j : Nat, r = (j : Int) := ⟨r.toNat, by omega⟩
    have hjl : j < xs.length := by omega
    exact ro_ixL (K := K) (x := xs[j]) (i := r) (by rw [hj]; exact atI_nat (List.getElem?_eq_getElem hjl)) a u W3 (rep_s g3 ra) e Q fun w W4 g4 rw => k w W4 (g2.trans (g3.and g4)) ⟨xs[j], List.getElem_mem _, rw⟩
theorem EvP.imp {P R : V → Wd → Prop} (h : EvP ε te σ W P) (i : ∀ v W, P v W → R v W) : EvP ε te σ W R := fun W1 g1 Q k => h W1 g1 _ fun v W2 g2 p => k v W2 g2 (i _ _ p)
theorem ex_sortSetL {n : Nat} (h : EvX ε K te σ W (fun xs : List Int => xs.length ≤ n)) (hn : n ≤ 4000) : EvX ε K (BY.tSortSetL K te) σ W (fun xs : List Int => xs.length ≤ n) := fun W1 g1 Q k => h W1 g1 _ fun v W2 g2 ⟨xs, hx, a, vs, e, s, r⟩ => by
  have e2 := reps_int r
  subst e2
  refine ⟨a, xs, e, SqL.of (W2.sub.el s), by omega, fun ns p hs hm hq => k _ (W2.add p _) (g2.and (W2.grow_add hq)) ⟨ns, ?_, p, _, rfl, upd_same, int_reps _⟩⟩
  have := nodup_le (hs.imp fun h e => by omega) (m := xs) fun k hk => (hm k).mp hk
  omega
end
end B
/-! BY: sets of keys of any kind, filled; len(set(list of texts)) -/
namespace BY
open PySem PySem.Spec PyProof.Rows L2
section
variable {P : Program} {w : World} {A : Around} {E : Value → Shared → Prop} {s : Shared} {κ : Type} [DecidableEq κ]
def inK (ks : List κ) (j : κ) : Bool := decide (j ∈ ks)
theorem fill_keys {knd : PySem.KeyKind P w κ} {I : Addr} {fp wr : List Addr} {G : Array GenState → Array GenState → Prop} {n : Nat} {Pv : Nat → Value → Prop} {St : Nat → Shared → Prop} {R : Result → Shared → Prop}
    (W : WalksS P w A.in1 I fp wr G n Pv St) {S : Addr} (hSf : S ∉ fp) {ks : List κ} (hn : n = ks.length) (hb : ks.length + 1 < scanBound) (hval : ∀ i v, Pv i v → ∃ k, ks[i]? = some k ∧ knd.is k v = true ∧ v.scannable = true) (hnd : ks.Nodup) :
    ∀ (m i : Nat) (s : Shared), n - i = m → i ≤ n → St i s → s.heap.SetOf knd S (inK (ks.take i)) i →
      (∀ s', Moved (S :: wr) G s s' → s'.heap.SetOf knd S (inK ks) n → R (.ok (.ret .none)) s') → codeAny (model P w) A (.builtin "set.update.loop" ⟨[.ref S, .ref I], []⟩) R s
  | 0, i, s, hm, hi, st, h, k => by
    obtain rfl : i = n := by omega
    have e : ks.take i = ks := List.take_of_length_le (by omega)
    rw [e] at h
    refine codeAny_builtin F.entry_set_update_loop ?_
    rw [Around.under_plainId F.plain_set_update_loop _]
    show wpAny _ A.in1 (pyNext (.ref I) >>= _) _ _ s
    refine wpAny_bind (W.done s _ _ st fun s' mv => ?_)
    have ne : S ∉ wr := fun z => hSf (W.sub _ z)
    obtain ⟨o, es, ep, t, ho, r⟩ := h
    exact wpAny_pure (k s' (mv.mono fun b hb => List.mem_cons_of_mem _ hb) ⟨o, es, ep, t, mv.heap S o ne ho, r⟩)
  | m + 1, i, s, hm, hi, st, h, k => by
    have hlt : i < n := by omega
    have ne : S ∉ wr := fun z => hSf (W.sub _ z)
    refine codeAny_builtin F.entry_set_update_loop ?_
    rw [Around.under_plainId F.plain_set_update_loop _]
    show wpAny _ A.in1 (pyNext (.ref I) >>= _) _ _ s
    refine wpAny_bind (W.item i s _ _ hlt st fun v s' pv st' mv => ?_)
    obtain ⟨x, hx, is, sc⟩ := hval i v pv
    have h' : s'.heap.SetOf knd S (inK (ks.take i)) i := by
      obtain ⟨o, es, ep, t, ho, r⟩ := h
      exact ⟨o, es, ep, t, mv.heap S o ne ho, r⟩
    have hni : x ∉ ks.take i := fun z => by
      obtain ⟨j, hj, e⟩ := List.mem_take_iff_getElem.mp z
      obtain ⟨hi', e2⟩ := List.getElem?_eq_some_iff.mp hx
      exact List.pairwise_iff_getElem.mp hnd j i (by omega) hi' (by omega) (e.trans e2.symm)
    show wpAny _ A.in1 (holding [v] (setAdd S v) >>= _) _ _ s'
    refine wpAny_bind (wpAny_holding ?_)
    unfold setAdd
    refine wpAny_holding (wpAny_bind (knd.pyHash is ?_))
    refine wpAny_setAddHashed_of (s := { s' with toks := s'.toks + 1 }) is sc h' (by omega) fun h2 sb new => ?_
    have new2 : h2.SetOf knd S (inK (ks.take (i + 1))) (i + 1) := by
      rw [if_neg (by unfold inK; rw [decide_eq_true_eq]; exact hni)] at new
      have e : (fun j => inK (ks.take i) j || decide (j = x)) = inK (ks.take (i + 1)) := by
        funext j
        unfold inK
        rw [List.take_add_one, hx]
        simp [List.mem_append]
      rwa [e] at new
    refine wpAny_pure ⟨plainId_quiet F.plain_set_update_loop _, fill_keys W hSf hn hb hval hnd m (i + 1) _ (by omega) hlt (W.frame _ s' _ _ st' (Nat.le_succ _) fun b hb o e => ?_) new2 fun s2 mv2 q => ?_⟩
    · rw [sb.2 b (fun z : b = S => hSf (by rw [← z]; exact hb))]
      exact e
    · refine k s2 (Moved.trans W.gtrans ((mv.mono fun b hb => List.mem_cons_of_mem _ hb).then_heap (Nat.le_succ _) fun b o hb e => ?_) mv2) q
      rw [sb.2 b (fun z => hb (by rw [z]; exact List.mem_cons_self))]
      exact e
/-- texts as keys -/
def keysS (xs : List Str) : List Key := xs.map fun x => Sum.inr x
/-- set(xs), a list of unlike texts -/
theorem set_listS {l : Addr} {its : List Value} {xs : List Str} {Q : Value → Shared → Prop} (hh : A.handled = none) (hl : s.heap.IsList l its.toArray) (r : Vals (xs.map V.str) its) (hb : xs.length + 1 < scanBound) (hnd : xs.Nodup)
    (h : ∀ (h' : Heap) (tk : Nat), h'.SetOf (mixKind P w) s.heap.objs.size (inK (keysS xs)) xs.length → (∀ b o, s.heap.get? b = some o → h'.get? b = some o) → Q (.ref s.heap.objs.size) { s with heap := h', toks := tk }) :
    wpAny (model P w) A (call (.type "set") [.ref l]) Q E s := by
  have hn : its.toArray.size = (keysS xs).length := by
    have := r.length
    rw [List.length_map] at this
    unfold keysS
    rw [List.size_toArray, List.length_map]
    exact this.symm
  have hn' : its.toArray.size = xs.length := by rw [hn]; unfold keysS; rw [List.length_map]
  have lt : l < s.heap.objs.size := by
    obtain ⟨o, ho, _⟩ := hl
    exact Heap.lt_size ho
  have sz : (s.heap.push (set0 w)).objs.size = s.heap.objs.size + 1 := Heap.size_push ..
  have at0 : (s.heap.push (set0 w)).get? s.heap.objs.size = some (set0 w) := Heap.get?_push_size _ rfl
  refine set_of_list (Pz := fun h' tk => h'.SetOf (mixKind P w) s.heap.objs.size (inK (keysS xs)) xs.length ∧ ∀ b o, s.heap.get? b = some o → h'.get? b = some o) hl (fun R k => ?_) fun h' tk ⟨q1, q2⟩ => h h' tk q1 q2
  have il : (s.heap.push (set0 w)).IsList l its.toArray := hl.push _
  refine fill_keys (knd := mixKind P w) (ks := keysS xs) ((Walks.list (by simp [hh]) (s.heap.push (set0 w)).objs.size l (by rw [sz]; exact Nat.ne_of_lt (Nat.lt_succ_of_lt lt)) its.toArray).toS) (by rw [sz]; simp only [List.mem_cons, List.not_mem_nil, or_false, not_or]; exact ⟨Nat.ne_of_lt (Nat.lt_succ_self _), Nat.ne_of_gt lt⟩) hn (by unfold keysS; rw [List.length_map]; exact hb) (fun i v hv => ?_)
    (by unfold keysS; exact List.pairwise_map.mpr (hnd.imp fun ne e => ne (Sum.inr.inj e))) its.toArray.size 0 _ (by omega) (Nat.zero_le _)
    ⟨⟨_, Heap.get?_push_size _ rfl, rfl, rfl⟩, il.push _⟩ ⟨_, #[], 0, _, Heap.get?_push_of_some _ at0, ⟨rfl, rfl, rfl⟩, rfl, (fun e he => by simp at he), (fun k => by simp [inK]), (by decide), (by rfl), rfl⟩ fun s' m hS => ?_
  · have hv' : its[i]? = some v := by simpa using hv
    have hi : i < xs.length := by
      have := (List.getElem?_eq_some_iff.mp hv').1
      rw [← hn', List.size_toArray]
      exact this
    obtain ⟨u, hu, ru⟩ := r.get (i := i) (x := V.str xs[i]) (by rw [List.getElem?_map, List.getElem?_eq_getElem hi]; rfl)
    rw [hv'] at hu
    cases hu
    have rk : RelV (kV (Sum.inr xs[i])) v := ru
    exact ⟨Sum.inr xs[i], by unfold keysS; rw [List.getElem?_map, List.getElem?_eq_getElem hi]; rfl, kV_is rk, key_scan rk⟩
  · obtain ⟨h', g', d', tk', os'⟩ := s'
    obtain rfl : g' = s.gens := m.gens
    obtain rfl : d' = s.drawn := m.drawn
    obtain rfl : os' = s.os := m.os
    refine k h' tk' ⟨by rw [← hn']; exact hS, fun b o e => ?_⟩
    have hb0 := Heap.lt_size e
    exact m.heap b o (by rw [sz]; simp only [List.mem_cons, List.not_mem_nil, or_false, not_or]; exact ⟨Nat.ne_of_lt hb0, Nat.ne_of_lt (Nat.lt_succ_of_lt hb0)⟩) (Heap.get?_push_of_some _ (Heap.get?_push_of_some _ e))
end
section
variable {X : Cx}
/-- len(set(xs)), a list of unlike texts -/
def tLenSetS (K : PySem.W.Frag) (ta : TE) : TE := fun σ H Q => ta σ H fun x H1 => ∃ (l : Addr) (xs : List Str), x = .ref l ∧ SqL K H1 l (xs.map V.str) ∧ xs.Nodup ∧ xs.length ≤ 4000 ∧ Q (.int (xs.length : Nat)) H1
theorem pe_lenSetS {a : Expr} {ta : TE} {p p2 q pos : Pos} (hg : Gl X "len") (hm : X.mg "len" = none) (hg2 : Gl X "set") (hm2 : X.mg "set" = none) (ha : PE X a ta) (hc : X.calm = true := by rfl)
    (na : starEach [a] X.env = (false, eval a X.env) :: starEach [] X.env := by rfl) : PE X (.Call (.Name "len" p) [.Call (.Name "set" p2) [a] [] q] [] pos) (tLenSetS X.K ta) := by
  refine ⟨fun pins s σ H Q I h => ?_⟩
  refine Call_ (ld_blt I hg hm boot_len ?_)
  refine PyProof.Rows.callWith_builtin1 (PyProof.Rows.args_cons ?_ rfl) rfl rfl
  refine Call_ (ld_blt I hg2 hm2 boot_set ?_)
  refine PyProof.Rows.callWith_type1 (PyProof.Rows.args_cons (thn (ha.run pins s σ H _ I h) fun v s1 ⟨x, H1, I1, r1, q1⟩ => PyProof.Rows.args_nil ?_) na) na rfl
  obtain ⟨l, xs, rfl, hq, hnd, hl, q1⟩ := q1
  cases r1
  obtain ⟨its, r, pl, hz⟩ := I1.list hq
  refine set_listS (I1.ok.hd hc) pl.isList r (by unfold scanBound; omega) hnd fun h' tk hS hk => ?_
  refine PyProof.Rows.args_nil ?_
  obtain ⟨o, es, ep, t, ho, hex, hd, _, _, _, hf, hn⟩ := hS
  have I2 : Inv X pins σ H1 { s1 with heap := h', toks := tk } := I1.kept hk
  exact call_len_set ho hex hd hf (by rw [hn] <;> omega) ⟨.int (xs.length : Nat), H1, I2.tok _, ⟨_, by rw [hn]⟩, q1⟩
end
end BY
/-! B: != of own instances by their own == -/
namespace B
open PySem L2 PySem.Spec PyProof.Rows
section
variable {prog : Program} {w : World} {A : Around} {E : Value → Shared → Prop} {s : Shared} {K : Fg} {x y C L f : Addr} {h₀ : Heap} {m : Str → Option Value} {ox : Obj} {od : Option Obj}
theorem ne_body {Q : PySem.Fin → Shared → Prop} (X : K.In s.heap) (I : PySem.W.InstAt s.heap x ox C od) (hs : PySem.W.findIn K (.ref C) "__eq__" = some (some (.ref f))) (hf : PySem.W.isFn K (.ref f) = true) (hu : A.units < cLine)
    (h : wpAny (model prog w) A (call (.ref f) [.ref x, .ref y]) (fun v s' => ∃ b, v = .bool b ∧ Q (.done (.ret (.bool (!b)))) s') E s) : wpAny (model prog w) A (Builtin.«object.__ne__» ⟨[.ref x, .ref y], []⟩) Q E s := by
  unfold Builtin.«object.__ne__»
  repeat (first
    | with_reducible refine wpAny_cRoomFor hu ?_
    | (refine wpAny_bind (m := callSpecialIfBound? (.ref x) (Str.ofString "__eq__") [.ref y]) (PySem.W.ifBound_K X I hs hf (wpAny_mono h (fun v s' hv => ?_) fun _ _ e => e)))
    | wp_step)
  obtain ⟨b, rfl, q⟩ := hv
  repeat (first | exact q | exact wpAny_pure q | exact wpAny_truthy_bool q | (refine wpAny_bind (m := truthy (.bool _)) (wpAny_truthy_bool ?_)) | wp_step)
theorem ne_bound {M : Model} {args : List Value} {Q : Option Value → Shared → Prop} (X : K.In s.heap) (I : PySem.W.InstAt s.heap x ox C od) (hs : PySem.W.findIn K (.ref C) "__ne__" = some (some (.builtin "object.__ne__")))
    (h : wpAny M A (call (.builtin "object.__ne__") (.ref x :: args)) (fun v => Q (some v)) E s) : wpAny M A (callSpecialIfBound? (.ref x) "__ne__" args) Q E s := by
  simp only [callSpecialIfBound?, bindSpecialIfBound?]
  refine wpAny_holding (wpAny_bind (wpAny_bind (wpAny_bind (I.type.here ((PySem.W.looks_findIn X hs).here ?_)))))
  refine wpAny_bind (wpAny_askSetting (wpAny_ite ?_))
  have fin : wpAny M A (call (.builtin "object.__ne__") ([.ref x] ++ args) >>= fun v => pure (some v)) Q E s := wpAny_bind (wpAny_mono h (fun v s' h' => wpAny_pure h') fun _ _ h' => h')
  simp only [PySem.F.cmp_object.ne.bind]
  split
  · exact wpAny_bind (wpAny_pure (wpAny_pure fin))
  · exact wpAny_tryCatch (wpAny_bind (wpAny_pure (wpAny_pure fin)))
end
section
variable {X : Cx} {CX : CXT} {k : Nat} {f C : Addr} {fd : FuncData} {ps : List Str} {sp : Sp} {E : XK}
/-- x != y, two instances of the class at C, whose own __eq__ keeps the promise sp -/
def rInsNe (C : Addr) (sp : Sp) (E : XK) : R2 := fun x y H Q => ∃ a b dx dy fs gs, x = .ref a ∧ y = .ref b ∧ H a = some (.ins C dx fs) ∧ H b = some (.ins C dy gs) ∧ sp [x, y] H (fun v H' => ∃ r, v = .bl r ∧ Q (.bl (!r)) H') E
theorem op_insNe (F : FnOk X.prog X.w X.K X.mg X.base CX k f fd ps sp) (hr : Room (k + 1) X.A) (hm : Meth X.K C "__eq__" f) (hn : PySem.W.findIn X.K (.ref C) "__ne__" = some (some (.builtin "object.__ne__")))
    (ho : PySem.W.mroIn X.K C (.type "object") = some true) (hb : Binds X.K fd ps []) (hx : Passes CX X E) : OpR X (compareOp .NotEq) (rInsNe C sp E) := by
  intro pins s σ H x y v u Q I rx ry h
  obtain ⟨a, b, dx, dy, fs, gs, rfl, rfl, ha, hb', q⟩ := h
  cases (show v = Value.ref a from rx)
  cases (show u = Value.ref b from ry)
  obtain ⟨mA, J, _⟩ := ins_get I.hok ha
  obtain ⟨mB, J', _⟩ := ins_get I.hok hb'
  obtain ⟨od, J, _⟩ := J.look
  obtain ⟨od', J', _⟩ := J'.look
  obtain ⟨m, hF⟩ := I.fr
  have XK := I.kIn
  show wpAny (model X.prog X.w) X.A (richCompare .NotEq (.ref a) (.ref b)) (EP X pins σ Q) X.xe s
  have own : wpAny (model X.prog X.w) X.A.in1 (call (.ref f) [.ref a, .ref b]) (fun v s' => ∃ r, v = .bool r ∧ EP X pins σ Q (.bool (!r)) s') X.xe s := by
    have hl := F.len _ _ _ _ q
    have r2 : Vals [V.ref a, V.ref b] [Value.ref a, Value.ref b] := .cons rfl (.cons rfl .nil)
    refine wpAny_call (codeAny_mono (F.run X.A.in1 X.stack s H ⟨[.ref a, .ref b], []⟩ [.ref a, .ref b] [.ref a, .ref b] _ E hr.in1 I.env0.in1 (by
      have := hb s [.ref a, .ref b] I.kIn (by simpa using hl)
      simpa using this) r2 q) fun r s' hq => ?_)
    cases r with
    | error e => exact hx pins σ H s e s' I hq
    | ok fl =>
      cases fl with
      | ret w =>
        obtain ⟨z, H', I', rz, r, rfl, q'⟩ := I.after hq
        cases rz
        exact ⟨r, rfl, .bl (!r), H', I', rfl, q'⟩
      | next => exact False.elim hq
      | brk => exact False.elim hq
      | cont => exact False.elim hq
  have one : wpAny (model X.prog X.w) X.A (tryCompare (.ref a) "__ne__" (.ref b)) (fun r s' => ∃ v, r = some v ∧ EP X pins σ Q v s') X.xe s := by
    unfold tryCompare
    refine wpAny_bind (ne_bound XK J hn (wpAny_call (codeAny_call_builtin PySem.F.cmp_object.ne.plain PySem.F.cmpEntry_ne (@PySem.W.check_slot (model X.prog X.w) _ _ s "object.__ne__" "object" "__ne__" (.ref a) [.ref b] [] _ PySem.F.cmpKind_ne PySem.F.cmpSplit_ne
      (J.type.andThen (PySem.W.looks_mroIn XK ho)) (PySem.F.cmpArgs_ne _ _) ?_))))
    refine ne_body (s := s) XK J hm.at_ hm.fn hr.in1.units0 (wpAny_mono own (fun v s' z => ?_) fun _ _ e => e)
    obtain ⟨r, rfl, z⟩ := z
    refine ⟨r, rfl, ?_⟩
    exact wpAny_pure ⟨_, rfl, z⟩
  unfold richCompare
  simp only [oneThing_ref]
  refine wpAny_holding (wpAny_bind (wpAny_cRoomFor hr.units0 ?_))
  refine wpAny_bind (J.type.here (wpAny_bind (J'.type.here ?_)))
  split
  · rename_i q; simp at q
  · refine wpAny_bind (wpAny_pure ?_)
    simp only [Bool.false_eq_true, if_false]
    refine wpAny_bind (wpAny_mono one (fun r s' z => ?_) fun _ _ e => e)
    obtain ⟨v, rfl, hq⟩ := z
    exact wpAny_pure hq
end
end B
/-! B: min(d.values()), sorted(d.items()) -/
namespace B
open PySem L2 PySem.Spec PyProof.Rows
section
variable {X : Cx}
/-- min(d.values()) -/
def rMinV : List V → Hp → VK → Prop := fun vs H Q => ∃ (v a : Addr) (kvs : List (Key × V)) (is : List Int), vs = [V.ref v] ∧ H v = some (viewHO v a) ∧ H a = some (.dK kvs) ∧ kvs.map (·.2) = is.map V.int ∧ 0 < is.length ∧ ∀ m, m ∈ is → (∀ y ∈ is, m ≤ y) → Q (.int m) H
theorem cr_minV (hc : X.calm = true) : CallR X (.builtin "min") rMinV := by
  intro pins s σ H xs us Q I r h
  obtain ⟨v, a, kvs, is, rfl, hv, ha, hi, hne, q⟩ := h
  obtain rfl := Vals.ref1 r
  obtain ⟨vs, ep, e, dat, hl, _, hval⟩ := view_at I hv ha hi
  refine call_min_walkS ?_
  obtain ⟨oI, St, hit, W, st⟩ := (PySem.W.kdl_values (prog := X.prog) (w := X.w) (knd := mixKind X.prog X.w) (d := a) (r := v) (kvs := vs) (ep := ep)).iter X.A.in1 s (I.ok.hd hc) ⟨⟨_, e, rfl, rfl⟩, dat⟩
  have hv2 : ∀ (i : Nat) (u : Value), (∃ k, vs[i]? = some (k, u)) → ∃ t, u = Value.int (is.getD i 0) t := fun i u hu => by
    obtain ⟨x, t, h1, h2⟩ := hval i u hu
    exact ⟨t, by rw [h2]; show Value.int x t = Value.int (is.getD i 0) t; rw [List.getD_eq_getElem?_getD, h1]; rfl⟩
  refine hit _ _ ⟨s.heap.objs.size, _, _, _, vs.length, _, _, fun i j => decide (is.getD i 0 < is.getD j 0), rfl, W.toS, st, fun b hb => ?_, by rw [hl]; exact hne, CmpOf.ints_lt (fun i => is.getD i 0) hv2, fun u s' hu hm => ?_⟩
  · show b < (s.heap.push oI).objs.size
    rw [Heap.size_push]
    rcases List.mem_cons.mp hb with e' | hb
    · rw [e']; exact Nat.lt_succ_self _
    · rw [List.mem_singleton.mp hb]; exact Nat.lt_succ_of_lt (by obtain ⟨ob, es, ho, _⟩ := id dat; exact Heap.lt_size ho)
  · obtain ⟨t, rfl⟩ := hv2 _ u hu
    have hk : ∀ b o, s.heap.get? b = some o → s'.heap.get? b = some o := fun b o e =>
      hm.heap b o (fun hI => absurd (Heap.lt_size e) (by rw [List.mem_singleton.mp hI]; exact Nat.lt_irrefl _)) (Heap.get?_push_of_some _ e)
    have hb := argBest_lt (fun i => is.getD i 0) (vs.length - 1)
    have hlt : argBest (fun i j => decide (is.getD i 0 < is.getD j 0)) (vs.length - 1) < is.length := by
      have := hb.1
      omega
    rw [Moved.eq_with hm]
    refine ⟨.int _, H, I.kept hk, ⟨t, rfl⟩, q _ ?_ fun y hy => ?_⟩
    · rw [List.getD_eq_getElem?_getD, List.getElem?_eq_getElem hlt, Option.getD_some]; exact List.getElem_mem hlt
    · obtain ⟨i, hi', rfl⟩ := List.getElem_of_mem hy
      have := hb.2 i (by omega)
      simpa [List.getD_eq_getElem?_getD, List.getElem?_eq_getElem hi'] using this
end
/-! ### sorted(d.items()), values ints, keys all texts or all ints -/
def kdat : Key → PyData := Sum.elim PyData.int PyData.str
def kle : Key → Key → Bool
  | .inl i, .inl j => decide (i ≤ j)
  | .inr s, .inr t => decide (s.cps.toList ≤ t.cps.toList)
  | _, _ => false
def ienc (q : Key × Int) : PyData := .tuple [kdat q.1, .int q.2]
def OneKind (ks : List (Key × Int)) : Prop := (∀ q ∈ ks, ∃ x : Str, q.1 = .inr x) ∨ ∀ q ∈ ks, ∃ i : Int, q.1 = .inl i
theorem ienc_le {a b : Key × Int} (h : (∃ x y : Str, a.1 = .inr x ∧ b.1 = .inr y) ∨ ∃ x y : Int, a.1 = .inl x ∧ b.1 = .inl y) (hl : PySem.W.dataLe false ienc a b = true) : kle a.1 b.1 = true := by
  rw [PySem.W.dataLe_eq] at hl
  obtain ⟨a1, a2⟩ := a
  obtain ⟨b1, b2⟩ := b
  rcases h with ⟨x, y, rfl, rfl⟩ | ⟨x, y, rfl, rfl⟩
  · have hl' : (!PySem.W.dataLt (.tuple [.str y, .int b2]) (.tuple [.str x, .int a2])) = true := hl
    rw [PySem.W.dataLt_pair (by simp [PySem.W.alike]) (by simp [PySem.W.alike]), PySem.W.dataLt_str] at hl'
    show decide (x.cps.toList ≤ y.cps.toList) = true
    rw [← PySem.W.not_lt_str]
    by_cases e : y = x
    · subst e; simp
    · have : PyData.eqv (.str y) (.str x) = false := by simp [PyData.eqv, e]
      rw [this] at hl'
      simpa using hl'
  · have hl' : (!PySem.W.dataLt (.tuple [.int y, .int b2]) (.tuple [.int x, .int a2])) = true := hl
    rw [PySem.W.dataLt_pair (by simp [PySem.W.alike]) (by simp [PySem.W.alike])] at hl'
    show decide (x ≤ y) = true
    rw [← PySem.W.not_lt_int]
    by_cases e : y = x
    · subst e; simp
    · have : PyData.eqv (.int y) (.int x) = false := by simp [PyData.eqv, e]
      rw [this, if_neg Bool.false_ne_true, PySem.W.dataLt_int] at hl'
      exact hl'
theorem OneKind.two {ks : List (Key × Int)} (h : OneKind ks) {a b : Key × Int} (ha : a ∈ ks) (hb : b ∈ ks) : (∃ x y : Str, a.1 = .inr x ∧ b.1 = .inr y) ∨ ∃ x y : Int, a.1 = .inl x ∧ b.1 = .inl y := by
  rcases h with h | h
  · obtain ⟨x, e⟩ := h a ha
    obtain ⟨y, e'⟩ := h b hb
    exact .inl ⟨x, y, e, e'⟩
  · obtain ⟨x, e⟩ := h a ha
    obtain ⟨y, e'⟩ := h b hb
    exact .inr ⟨x, y, e, e'⟩
theorem OneKind.alike {ks : List (Key × Int)} (h : OneKind ks) : PySem.W.AllAlike (ks.map ienc) := by
  intro d hd d' hd'
  obtain ⟨a, ha, rfl⟩ := List.mem_map.mp hd
  obtain ⟨b, hb, rfl⟩ := List.mem_map.mp hd'
  obtain ⟨a1, a2⟩ := a
  obtain ⟨b1, b2⟩ := b
  rcases h.two ha hb with ⟨x, y, e, e'⟩ | ⟨x, y, e, e'⟩
  · cases e; cases e'; simp [ienc, kdat, PySem.W.alike, PySem.W.alikeAll]
  · cases e; cases e'; simp [ienc, kdat, PySem.W.alike, PySem.W.alikeAll]
theorem isorted {ks : List (Key × Int)} (h : OneKind ks) : (ks.mergeSort (PySem.W.dataLe false ienc)).Pairwise fun a b => kle a.1 b.1 = true := by
  have := PySem.W.sort_pairwise (PySem.W.sortLe_total (PyProof.Rows.listOrd PyProof.Rows.itemOrd) false fun b => PySem.W.keyToks (ienc b)) ks
  refine List.Pairwise.imp_of_mem (fun {a b} ha hb hl => ienc_le (h.two (List.mem_mergeSort.mp ha) (List.mem_mergeSort.mp hb)) hl) this
end B
/-! B: sorted(d.items()) -/
namespace B
open PySem L2 PySem.Spec PyProof.Rows
/-- sorted(d.items()): tuples in the order of the keys -/
def rSortItems : V → Hp → VK → Prop := fun x H Q => ∃ (d : Addr) (ks : List (Key × Int)), x = .ref d ∧ H d = some (.dK (ks.map fun q => (q.1, V.int q.2))) ∧ OneKind ks ∧ ks.length ≤ 4000 ∧
  ∀ (ys : List (Key × Int)) (H' : Hp) (p : Addr) (ts : List Addr), ys.Perm ks → ys.Pairwise (fun a b => kle a.1 b.1 = true) → (∀ b o, H b = some o → H' b = some o) → H p = none → (∀ t ∈ ts, H t = none) → p ∉ ts → H' p = some (.lst (ts.map V.ref)) →
    Paired (fun (t : Addr) (q : Key × Int) => H' t = some (.tup [kV q.1, .int q.2])) ts ys → Q (.ref p) H'
def tSortItems (te : TE) : TE := fun σ H Q => te σ H fun x H1 => rSortItems x H1 Q
section
variable {prog : Program} {w : World} {A : Around} {E : Value → Shared → Prop} {s : Shared}
theorem each_refs {Rr : Value → Key × Int → Prop} : ∀ {out : List Value} {ys : List (Key × Int)}, PySem.W.EachIs Rr out ys → (∀ v q, Rr v q → ∃ t, v = .ref t) → ∃ ts : List Addr, out = ts.map Value.ref ∧ Paired (fun t q => Rr (.ref t) q) ts ys
  | _, _, .nil, _ => ⟨[], rfl, .nil⟩
  | _, _, .cons h r, hr => by
    obtain ⟨t, rfl⟩ := hr _ _ h
    obtain ⟨ts, rfl, q⟩ := each_refs r hr
    exact ⟨t :: ts, rfl, .cons h q⟩
theorem each_ix {α β : Type} {Rr : α → β → Prop} : ∀ {as : List α} {bs : List β}, as.length = bs.length → (∀ (j : Nat) (a : α) (b : β), as[j]? = some a → bs[j]? = some b → Rr a b) → PySem.W.EachIs Rr as bs
  | [], [], _, _ => .nil
  | [], _ :: _, h, _ => by simp at h
  | _ :: _, [], h, _ => by simp at h
  | a :: as, b :: bs, h, q => .cons (q 0 a b rfl rfl) (each_ix (by simpa using h) fun j x y h1 h2 => q (j + 1) x y (by simpa using h1) (by simpa using h2))
theorem paired_imp {α β : Type} {R S : α → β → Prop} : ∀ {as : List α} {bs : List β}, Paired R as bs → (∀ a b, a ∈ as → R a b → S a b) → Paired S as bs
  | _, _, .nil, _ => .nil
  | _, _, .cons h r, q => .cons (q _ _ List.mem_cons_self h) (paired_imp r fun a b ha => q a b (List.mem_cons_of_mem _ ha))
/-- what the k-th pair is, on the heap -/
def PairAt (h : Heap) (t : Addr) (q : Key × Int) : Prop := ∃ key tk', h.get? t = some { cls := .type "tuple", data := .seq #[key, .int q.2 tk'] } ∧ RelV (kV q.1) key
theorem PairAt.reads {h h2 : Heap} {t : Addr} {q : Key × Int} (p : PairAt h t q) (k : ∀ b o, h.get? b = some o → h2.get? b = some o) : Reads h2 (.ref t) (ienc q) [] := by
  obtain ⟨key, tk', f3, rk⟩ := p
  obtain ⟨q1, q2⟩ := q
  have rkey : Reads h2 key (kdat q1) [] := by
    cases q1 with
    | inl i => obtain ⟨t, rfl⟩ := (show ∃ t, key = Value.int i t from rk); exact .int i t
    | inr x => obtain ⟨t, rfl⟩ := (show ∃ t, key = Value.str x t from rk); exact .str x t
  exact .tuple (vs := #[key, .int q2 tk']) (k _ _ f3) rfl rfl (.cons (as := []) (bs := []) rkey (.cons (as := []) (bs := []) (.int q2 tk') .nil))
theorem ienc_depth (q : Key × Int) : (ienc q).depth ≤ 1 := by
  obtain ⟨q1, q2⟩ := q
  cases q1 <;> simp [ienc, kdat, PyData.depth, PyData.depthAll]
def IxP (as : List Addr) (ks : List (Key × Int)) (v : Value) (q : Key × Int) : Prop := ∃ (j : Nat) (t : Addr), v = .ref t ∧ as[j]? = some t ∧ ks[j]? = some q
/-- the list of pairs, sorted -/
theorem sort_pairs {a : Addr} {n : Nat} {as : List Addr} {ks : List (Key × Int)} {Q : Value → Shared → Prop} (ho : s.heap.get? a = some (seqObj "list" (as.map Value.ref).toArray n)) (hl : as.length = ks.length) (pr : ∀ (j : Nat) (t : Addr) (q : Key × Int), as[j]? = some t → ks[j]? = some q → PairAt s.heap t q)
    (hok : OneKind ks) (h4 : ks.length ≤ 4000) (hu : A.units + 4 < cLine)
    (h : ∀ (ts : List Addr) (ys : List (Key × Int)), ys.Perm ks → ys.Pairwise (fun a b => kle a.1 b.1 = true) → Paired (fun t q => IxP as ks (.ref t) q) ts ys → Q .none { s with heap := sortedHeap s.heap a (as.map Value.ref) (ts.map Value.ref).toArray }) :
    wpAny (model prog w) A (call (.builtin "list.sort") [.ref a]) Q E s := by
  have eR : PySem.W.EachIs (IxP as ks) (as.map Value.ref) ks := each_ix (by simpa using hl) fun j a b h1 h2 => by
    rw [List.getElem?_map] at h1
    obtain ⟨t, h3, rfl⟩ := Option.map_eq_some_iff.mp h1
    exact ⟨j, t, rfl, h3, h2⟩
  refine PySem.W.list_sort_data (enc := ienc) (R := IxP as ks) ho eR (eR.mono fun v q ⟨j, t, e, h1, h2⟩ => ⟨[], by rw [e]; exact (pr j t q h1 h2).reads fun _ _ z => z, by simp⟩) hok.alike (.inl fun d hd => ?_) (by rw [sizeLine_eq]; omega) (fun b _ => ?_) fun out ho hO => ?_
  · obtain ⟨b, _, rfl⟩ := List.mem_map.mp hd
    exact ⟨_, _, rfl⟩
  · have := ienc_depth b
    omega
  · obtain ⟨ts, rfl, q⟩ := each_refs hO fun v q ⟨_, t, e, _⟩ => ⟨t, e⟩
    exact h ts _ (List.mergeSort_perm _ _) (isorted hok) q
/-- sorted(the items' view) -/
theorem sorted_view {r d : Addr} {ep : Nat} {vs : List (Key × Value)} {ks : List (Key × Int)} {Q : Value → Shared → Prop} (hh : A.handled = none) (hv : s.heap.IsItemsView r d) (hm : s.heap.DictAt (mixKind prog w) d vs ep) (kv : KV (ks.map fun q => (q.1, V.int q.2)) vs)
    (hok : OneKind ks) (h4 : ks.length ≤ 4000) (hu : A.units + 8 < cLine)
    (hQ : ∀ (h' : Heap) (tk : Nat) (p : Addr) (as ts : List Addr) (ys : List (Key × Int)), (∀ b o, s.heap.get? b = some o → h'.get? b = some o) → r < p → (∃ n, h'.get? p = some (seqObj "list" (ts.map Value.ref).toArray n)) → as.Pairwise (· < ·) → (∀ t ∈ as, s.heap.objs.size < t ∧ t < p) → as.length = ks.length →
      (∀ (j : Nat) (t : Addr) (q : Key × Int), as[j]? = some t → ks[j]? = some q → PairAt h' t q) → ys.Perm ks → ys.Pairwise (fun a b => kle a.1 b.1 = true) → Paired (fun t q => IxP as ks (.ref t) q) ts ys → Q (.ref p) { s with heap := h', toks := tk }) :
    wpAny (model prog w) A (call (.builtin "sorted") [.ref r]) Q E s := by
  have lk' : ks.length = vs.length := by simpa using KV.length kv
  have hzl : vs.length ≤ sizeLine := by rw [← lk', sizeLine_eq]; omega
  refine Calls.call_function_entry kind_sorted plain_sorted entry_sorted (args_sorted1 _) ?_
  unfold Builtin.«sorted»
  refine wpAny_bind (m := checkCount "sorted" 1 1 _) (wpAny_pure ?_)
  refine wpAny_bind (PySem.W.kdx_collect (A := A.in1) (knd := mixKind prog w) (kvs := vs) (ep := ep) hh hv hm hzl fun h' tk as hk hl hG => ?_)
  have hal : (as.map Value.ref).length ≤ sizeLine := by rw [List.length_map, hl]; exact hzl
  have lak : as.length = ks.length := by omega
  have pr : ∀ (j : Nat) (t : Addr) (q : Key × Int), as[j]? = some t → ks[j]? = some q → PairAt h' t q := by
    intro j t q h1 h2
    obtain ⟨key, k, x, f1, f2, f3⟩ := hG.pairs j t h1
    have e2 : (ks.map fun q => (q.1, V.int q.2))[j]? = some (q.1, V.int q.2) := by rw [List.getElem?_map, h2]; rfl
    obtain ⟨qv, g1, g2, g3⟩ := LiI.paired_get kv e2
    rw [f1] at g1
    cases g1
    obtain ⟨t', rfl⟩ := (show ∃ t, x = Value.int q.2 t from g3)
    refine ⟨key, t', f3, ?_⟩
    rw [show q.1 = k from g2]
    exact relV_key (show keyIs k key = true from f2)
  refine wpAny_bind (wpAny_newList ?_ hal)
  have hoL : (h'.push (seqObj "list" (as.map Value.ref).toArray 0)).get? h'.objs.size = some (seqObj "list" (as.map Value.ref).toArray 0) := Heap.get?_push_size _ rfl
  refine wpAny_bind (wpAny_holding ?_)
  refine sort_pairs (A := A.in1) (s := ⟨h'.push (seqObj "list" (as.map Value.ref).toArray 0), s.gens, s.drawn, tk, s.os⟩) hoL lak (fun j t q h1 h2 => ?_) hok h4 (by show A.units + 1 + 4 < _; omega) fun ts ys y1 y2 y3 => ?_
  · obtain ⟨key, t', e1, e2⟩ := pr j t q h1 h2
    exact ⟨key, t', Heap.get?_push_of_some _ e1, e2⟩
  refine wpAny_pure ?_
  obtain ⟨c, hc⟩ := sortedHeap_at (vs := as.map Value.ref) (out := (ts.map Value.ref).toArray) hoL
  have keep : ∀ b o, h'.get? b = some o → (sortedHeap (h'.push (seqObj "list" (as.map Value.ref).toArray 0)) h'.objs.size (as.map Value.ref) (ts.map Value.ref).toArray).get? b = some o := fun b u e => by
    have hlt := Heap.lt_size e
    rw [sortedHeap_old (Nat.ne_of_lt hlt) (by rw [size_push']; exact Nat.lt_succ_of_lt hlt)]
    exact Heap.get?_push_of_some _ e
  refine ⟨_, rfl, hQ _ tk h'.objs.size as ts ys (fun b o e => keep b o (hk b o e)) ?_ ⟨c, hc⟩ hG.rise (fun t ht => ⟨hG.above t ht, hG.there ht⟩) lak (fun j t q h1 h2 => ?_) y1 y2 y3⟩
  · obtain ⟨o, ho, _⟩ := hv
    exact Heap.lt_size (hk _ _ ho)
  · obtain ⟨key, t', e1, e2⟩ := pr j t q h1 h2
    exact ⟨key, t', keep _ _ e1, e2⟩
end
section
variable {X : Cx} {e : Expr} {te : TE} {p apos cpos pos : Pos}
theorem ix_perm {as : List Addr} {ks ys : List (Key × Int)} {ts : List Addr} (h : Paired (fun t q => IxP as ks (.ref t) q) ts ys) : ∀ t ∈ ts, t ∈ as := fun t ht => by
  obtain ⟨j, q, e1, e2, j', t', e3, e4, e5⟩ := LiI.paired_ix h ht
  cases e3
  exact List.mem_of_getElem? e4
theorem pe_sortItems (hc : X.calm = true) (he : PE X e te) (hg : Gl X "sorted") (hm : X.mg "sorted" = none) (hu : X.A.units + 64 < cLine) (hbase : attributeBase e "items" X.env (eval e X.env) = eval e X.env := by rfl) (hline : (apos.endLine == cpos.line) = true := by rfl)
    (hs : starEach [.Call (.Attribute e "items" apos) [] [] cpos] X.env = (false, eval (.Call (.Attribute e "items" apos) [] [] cpos) X.env) :: starEach [] X.env := by rfl) :
    PE X (.Call (.Name "sorted" p) [.Call (.Attribute e "items" apos) [] [] cpos] [] pos) (tSortItems te) := by
  refine ⟨fun pins s σ H Q I hq => ?_⟩
  refine Call_ (ld_blt I hg hm (show bootBuiltins "sorted" = some (.builtin "sorted") by decide +kernel) ?_)
  refine PyProof.Rows.callWith_builtin1 (PyProof.Rows.args_cons ?_ hs) rfl rfl
  refine wpAny_Call_method (T := "dict") (id := "dict.items") hbase rfl hline F.plainAttrs_dict F.slot_dict_items F.type_dict_items (thn (he.run pins s σ H _ I hq) fun u s1 ⟨x, H1, I1, rx, d, ks, ex, hd, hok, h4, q⟩ => ?_)
  subst ex
  obtain rfl : u = Value.ref d := rx
  obtain ⟨hz, hs0, vs, kv, hdo⟩ := I1.hok d _ hd
  obtain ⟨ep, hat⟩ := hdo.dictAt
  refine ⟨hdo.typeIs, hdo.mapOf.noDict, ?_⟩
  show wpAny _ _ (callWith cpos (.builtin "dict.items") [.ref d] [] []) _ X.xe s1
  refine method_meetsIn F.slot_dict_items F.entry_dict_items rfl (PySem.evalArgs_none ⟨rfl, hdo.typeIs, F.args_dict_items_1 _, _, meets_dict_items (mixKind X.prog X.w) d hs0, ⟨vs, hdo⟩, ?_⟩)
  refine PyProof.Rows.args_nil ?_
  have hvw : (s1.heap.push { cls := .type "dict_items", data := .fields #[.ref d] }).IsItemsView s1.heap.objs.size d := ⟨_, Heap.get?_push_size _ rfl, rfl, rfl⟩
  refine sorted_view (s := { s1 with heap := s1.heap.push { cls := .type "dict_items", data := .fields #[.ref d] } }) (I1.ok.hd hc) hvw (hat.push _) kv hok h4 (by omega) fun h' tk p as ts ys hk hp hl rise ab la pr y1 y2 y3 => ?_
  have keep : ∀ b o, s1.heap.get? b = some o → h'.get? b = some o := fun b o e => hk b o (Heap.get?_push_of_some _ e)
  have hp' : s1.heap.objs.size < p := hp
  have zle : s1.heap.objs.size ≤ (s1.heap.push { cls := .type "dict_items", data := .fields #[.ref d] }).objs.size := by rw [Heap.size_push]; exact Nat.le_succ _
  have hn0 : H1 p = none := I1.hok.fresh (Nat.le_of_lt hp')
  have I2 : Inv X pins σ H1 { s1 with heap := h', toks := tk } := I1.kept (t' := tk) keep
  obtain ⟨n, hl⟩ := hl
  have lt : ts.length = ks.length := by
    have := Paired.length y3
    rw [this, y1.length_eq]
  have I3 : Inv X pins σ (upd H1 p (.lst (ts.map V.ref))) { s1 with heap := h', toks := tk } :=
    I2.take (h' := h') (t' := tk) (fun b ob _ e => e) (I1.fpOk (Nat.le_of_lt hp') hn0) ⟨by rw [List.length_map, sizeLine_eq]; omega, ts.map Value.ref, n, LiI.vals_refs ts, hl⟩
  have nd : as.Nodup := List.Pairwise.imp (fun h => Nat.ne_of_lt h) rise
  have low : ∀ t ∈ as, s1.heap.objs.size ≤ t ∧ t < p := fun t ht => ⟨Nat.le_of_lt (Nat.lt_of_le_of_lt zle (ab t ht).1), (ab t ht).2⟩
  obtain ⟨H2, I4, g, qt⟩ := DX.takeT (P := fun b vs => ∃ (j : Nat) (q : Key × Int), as[j]? = some b ∧ ks[j]? = some q ∧ vs = [kV q.1, .int q.2]) I1 as _ I3 nd fun b hb => by
    obtain ⟨j, hj⟩ := List.mem_iff_getElem?.mp hb
    obtain ⟨hb1, hb2⟩ := low b hb
    have hj2 : j < ks.length := by have := (List.getElem?_eq_some_iff.mp hj).1; omega
    obtain ⟨key, tk', e1, e2⟩ := pr j b ks[j] hj (by simp [hj2])
    refine ⟨hb1, by rw [upd_ne (Nat.ne_of_lt hb2)]; exact I1.hok.fresh hb1, _, ⟨j, ks[j], hj, by simp [hj2], rfl⟩, fun H3 => ⟨by rw [sizeLine_eq]; show 2 ≤ 16777216; omega, [key, .int (ks[j]).2 tk'], .cons e2 (.cons ⟨tk', rfl⟩ .nil), ⟨_, e1, rfl, 0, rfl⟩⟩⟩
  have gr : ∀ b o, H1 b = some o → H2 b = some o := fun b o e => g b o (by rw [upd_ne (ne_of_none e hn0)]; exact e)
  have ht := ix_perm y3
  refine ⟨.ref p, H2, I4, rfl, q ys H2 p ts y1 y2 gr hn0 (fun t z => I1.hok.fresh (low t (ht t z)).1) (fun z => Nat.lt_irrefl _ (low p (ht p z)).2) (g _ _ upd_same) (paired_imp y3 fun t q hm ⟨i, t', e, i1, i2⟩ => ?_)⟩
  cases e
  obtain ⟨vs, ⟨j, q', j1, j2, ev⟩, hH⟩ := qt t (List.mem_of_getElem? i1)
  have eij : i = j := (List.getElem?_inj (List.getElem?_eq_some_iff.mp i1).1 nd).mp (i1.trans j1.symm)
  subst eij
  have ee : q' = q := Option.some.inj (j2.symm.trans i2)
  rw [ev, ee] at hH
  exact hH
end
end B
/-! B: methods and classes called with keywords, keyword-only defaults -/
namespace B
open PySem L2 PySem.Spec PyProof.Rows
/-- how a def without defaults binds n values and the keywords ks -/
theorem kbn_mk {K : Fg} {x qual : Str} {st : Stmt} {f : Addr} {fd : FuncData} {ps : List Str} {n : Nat} {ks : List Str} {l : List Nat} (F : Fun K x qual st f fd)
    (h : ∀ (kV doc pm : Value) (an : Option Addr) (cdv ct : Value) (us ws : List Value), us.length = n → ws.length = ks.length → bindArgs (PySem.W.fnOf x qual (defArgs st) (defBody st) (defScope st) .none kV doc pm an cdv ct) ⟨us, ks.zip ws⟩ = pure (ps.zip (us ++ perm l ws))) :
    ∃ g, KBn K fd ps n ks g (fun vs zs => vs ++ perm l zs) := by
  obtain ⟨oc, od, kV, doc, pm, an, cdv, ct, osl, rfl, lk, hcd⟩ := F.ex
  exact ⟨fun us ws => us ++ perm l ws, ⟨fun s us ws _ h1 h2 => .of_eq (h kV doc pm an cdv ct us ws h1 h2), fun r1 r2 => r1.append (perm_rel l r2)⟩⟩
theorem fund_mk {K : Fg} {x qual : Str} {st : Stmt} {f D : Addr} {oc : Value} {od an : Option Addr} {osl : Array (Option Value)} {doc pm cdv ct : Value} {kws : List (Str × V)} (l : K.lookup f = some ⟨oc, od, .func (PySem.W.fnOf x qual (defArgs st) (defBody st) (defScope st) .none (.ref D) doc pm an cdv ct), osl⟩)
    (c : PySem.W.codeIn K cdv qual = true) (k : PySem.W.keepIn K (.ref f) = true) (hk : ∀ q ∈ kws, ∃ u, PySem.W.nsIn K D q.1 = some (some u) ∧ RelV q.2 u) :
    FunD K x qual (defArgs st) (defBody st) (defScope st) [] kws f (PySem.W.fnOf x qual (defArgs st) (defBody st) (defScope st) .none (.ref D) doc pm an cdv ct) :=
  ⟨⟨oc, od, .none, .ref D, doc, pm, an, cdv, ct, osl, rfl, l, c, .inl ⟨rfl, rfl⟩, .inr ⟨D, rfl, hk⟩⟩, k⟩
/-- .. and one with keyword-only defaults, those of ms lacking -/
theorem kbd_mk {K : Fg} {x qual : Str} {params : Arguments} {body : List Stmt} {scope : Scope} {f : Addr} {fd : FuncData} {ps : List Str} {n : Nat} {ks : List Str} {kws ms : List (Str × V)} {l : List Nat} (F : FunD K x qual params body scope [] kws f fd) (hk : kws ≠ []) (hms : ∀ q ∈ ms, q ∈ kws)
    (h : ∀ (D : Addr) (doc pm : Value) (an : Option Addr) (cdv ct : Value) (us mv ws : List Value), us.length = n → mv.length = ms.length → ws.length = ks.length →
      KwChain D ((ms.map (·.1)).zip mv) (bindArgs (PySem.W.fnOf x qual params body scope .none (.ref D) doc pm an cdv ct) ⟨us, ks.zip ws⟩) (ps.zip (us ++ perm l (ws ++ mv)))) :
    ∃ g, KBn K fd ps n ks g (fun vs zs => vs ++ perm l (zs ++ ms.map (·.2))) := by
  obtain ⟨mv, q⟩ := F.kbinds0 n ks ms (fun us mv ws => us ++ perm l (ws ++ mv)) hk hms (fun r1 r2 r3 => r1.append (perm_rel l (r3.append r2))) h
  exact ⟨_, q⟩
/-- o.m(e, .., k = v, ..) -/
def tMethN (C : Addr) (m : Str) (n j : Nat) (sp : Sp) (gV : List V → List V → List V) (E : XK) (to : TE) (t tk : TA) : TE := fun σ H Q => to σ H fun x H1 => ∃ a dx fs, x = .ref a ∧ H1 a = some (.ins C dx fs) ∧ fs.lookup m = none ∧
  t σ H1 fun vs H2 => tk σ H2 fun zs H3 => vs.length = n ∧ zs.length = j ∧ sp (gV (x :: vs) zs) H3 Q E
section
variable {X : Cx} {CX : CXT} {k n j : Nat} {f C : Addr} {fd : FuncData} {ps ks : List Str} {sp : Sp} {E : XK} {o e : Expr} {es : List Expr} {to : TE} {t tk : TA} {kws : List Keyword} {m : Str} {apos pos : Pos} {gV : List V → List V → List V}
theorem pe_methN0 {pl : Sem Bool} (he : PE X o to) (c : Cls X.K C) (hm : Meth X.K C m f) (F : FnOk X.prog X.w X.K X.mg X.base CX k f fd ps sp) (hr : Room k X.A) (hb : ∃ g, KBn X.K fd ps 1 ks g gV) (hx : Passes CX X E)
    (hkw : PK X kws tk) (hall : (backToKw pos (keywordEach kws X.env)).all (·.1.isSome) = true := by rfl) (hks : (backToKw pos (keywordEach kws X.env)).filterMap (·.1) = ks := by rfl)
    (hn : j = ks.length := by rfl) (hpl : ((backTo pos (starEach [] X.env)).any (·.1) || (backToKw pos (keywordEach kws X.env)).any (·.1.isNone)) = false := by rfl)
    (ht : eval (.Call (.Attribute o m apos) [] kws pos) X.env = (eval o X.env >>= fun ov => standAt apos.atName >>= fun _ => holding [ov] (getMethod ov m pl) >>= fun fx => callWith pos fx.1 fx.2 (backTo pos (starEach [] X.env)) (backToKw pos (keywordEach kws X.env))) := by rfl) :
    PE X (.Call (.Attribute o m apos) [] kws pos) (tMethN C m 0 j sp gV E to tNil tk) := by
  subst hn
  obtain ⟨g, hb⟩ := hb
  refine ⟨fun pins s σ H Q I h => PySem.W.methodCall_KW (pl := pl) (thn (he.run pins s σ H _ I h) fun u s1 ⟨x, H1, I1, rx, a, dx, fs, ex, ea, lk, q⟩ => ?_) ht⟩
  subst ex
  obtain rfl : u = Value.ref a := rx
  refine getmeth_ok I1 ea c hm lk (PySem.W.callWith_KW0 (first := [.ref a]) (h₀ := X.base) I.ok.mod.kin hm.kp hall (thn (hkw.run pos pins s1 σ H1 _ I1 q) fun ws s2 ⟨zs, H2, I2, rz, _, hl, q2⟩ => ⟨I2.kIn, ?_⟩) hpl)
  rw [hks]
  exact run_fnN (vs := [.ref a]) F hr hb hx I2 (.cons rfl .nil) rz rfl hl q2
theorem pe_methN {pl : Sem Bool} (he : PE X o to) (c : Cls X.K C) (hm : Meth X.K C m f) (F : FnOk X.prog X.w X.K X.mg X.base CX k f fd ps sp) (hr : Room k X.A) (hb : ∃ g, KBn X.K fd ps (n + 1) ks g gV) (hx : Passes CX X E) (ha : PA X (e :: es) t)
    (hkw : PK X kws tk) (hall : (backToKw pos (keywordEach kws X.env)).all (·.1.isSome) = true := by rfl) (hks : (backToKw pos (keywordEach kws X.env)).filterMap (·.1) = ks := by rfl)
    (hn : j = ks.length := by rfl) (hpl : ((backTo pos (starEach (e :: es) X.env)).any (·.1) || (backToKw pos (keywordEach kws X.env)).any (·.1.isNone)) = false := by rfl) (hs : starEach (e :: es) X.env = (false, eval e X.env) :: starEach es X.env := by rfl)
    (ht : eval (.Call (.Attribute o m apos) (e :: es) kws pos) X.env = (eval o X.env >>= fun ov => standAt apos.atName >>= fun _ => holding [ov] (getMethod ov m pl) >>= fun fx => callWith pos fx.1 fx.2 (backTo pos (starEach (e :: es) X.env)) (backToKw pos (keywordEach kws X.env))) := by rfl) :
    PE X (.Call (.Attribute o m apos) (e :: es) kws pos) (tMethN C m n j sp gV E to t tk) := by
  subst hn
  obtain ⟨g, hb⟩ := hb
  refine ⟨fun pins s σ H Q I h => PySem.W.methodCall_KW (pl := pl) (thn (he.run pins s σ H _ I h) fun u s1 ⟨x, H1, I1, rx, a, dx, fs, ex, ea, lk, q⟩ => ?_) ht⟩
  subst ex
  obtain rfl : u = Value.ref a := rx
  refine getmeth_ok I1 ea c hm lk (PySem.W.callWith_KW (first := [.ref a]) (h₀ := X.base) I.ok.mod.kin hm.kp hall (thn (ha.run pos pins s1 σ H1 _ I1 q) fun us s2 ⟨vs, H2, I2, r, q2⟩ => thn (hkw.run pos pins s2 σ H2 _ I2 q2) fun ws s3 ⟨zs, H3, I3, rz, l1, l2, q3⟩ => ⟨I3.kIn, ?_⟩) hpl hs)
  rw [hks]
  exact run_fnN (vs := .ref a :: vs) F hr hb hx I3 (.cons rfl r) rz (by rw [List.length_cons, l1]) l2 q3
theorem pe_makeKE {x : Str} {p : Pos} (M : Mk X.K C f) (F : FnOk X.prog X.w X.K X.mg X.base CX k f fd ps sp) (hr : Room (k + 1) X.A) (hg : Gl X x) (hm : X.mg x = some (.ref C)) (hb : ∃ g, KBn X.K fd ps 1 ks g gV) (hx : Passes CX X E) (hkw : PK X kws tk)
    (hall : (backToKw pos (keywordEach kws X.env)).all (·.1.isSome) = true := by rfl) (hks : (backToKw pos (keywordEach kws X.env)).filterMap (·.1) = ks := by rfl) (hdb : (x == ("__debug__" : Str)) = false := by decide) (hn : j = ks.length := by rfl)
    (hpl : ((backTo pos (starEach [] X.env)).any (·.1) || (backToKw pos (keywordEach kws X.env)).any (·.1.isNone)) = false := by rfl) : PE X (.Call (.Name x p) [] kws pos) (tMakeK C 0 j sp gV E tNil tk) := by
  subst hn
  obtain ⟨g, hb⟩ := hb
  exact pe_makeK0 M F hr hg hm hb hx hkw hall hks hdb hpl
end
end B
/-! B: promises kept where no repr is under way (the guards are known to be none), from the top on; repr of a list -/
namespace B
open PySem PySem.Spec PyProof.Rows L2
/-- the promise sp is kept by the def at f wherever no guard stands -/
structure FnG (P : Program) (w : World) (K : Fg) (mg : Str → Option Value) (base : Heap) (k : Nat) (f : Addr) (fd : FuncData) (ps : List Str) (sp : Sp) : Prop where
  ln : ∀ vs H Q E, sp vs H Q E → vs.length = ps.length
  go : ∀ {A : Around} {outer : List Env} {s : Shared} {H : Hp} {args : Args} {us : List Value} {vs : List V} {Q : VK} {E : XK}, A.guards = some [] → Room k A → Env0 P w K mg base A outer s H → BindsTo s fd args (ps.zip us) → Vals vs us → sp vs H Q E →
    codeAny (model P w) A (.call (.ref f) args) (CR CX0 outer P w H s Q E) s
section
variable {P : Program} {w : World} {K : Fg} {mg : Str → Option Value} {base : Heap}
/-- how a body's end is a call's end -/
theorem end_of {X : Cx} {Q : VK} {E : XK} {outer : List Env} {H : Hp} {s s' : Shared} {N : List Str} {qual : Str} {sc : Scope} {f : Addr} {cd : Value} {A : Around} {σ : L2.St} {H' : Hp} {v : V} {u : Value}
    (J : Inv (cxOf CX0 P w K mg base N qual sc f cd A outer s H E) [] σ H' s') (r : RelV v u) (q : Q v H') : CE outer P w H s Q u s' := ⟨v, H', J.os, J.bare, J.base, J.hok, r, q⟩
theorem okG {x qual : Str} {st : Stmt} {f : Addr} {fd : FuncData} {N ps : List Str} {k : Nat} {sp : Sp} (F : Fun K x qual st f fd) (S : FnScope N ps (defScope st)) (ln : ∀ vs H Q E, sp vs H Q E → vs.length = ps.length)
    (body : ∀ (cd : Value) (A : Around), A.guards = some [] → ∀ (outer : List Env) (s : Shared) (H : Hp) (vs : List V) (Q : VK) (E : XK), Room k (A.deeper (envOfC qual (defScope st) s.heap.objs.size f cd)) → sp vs H Q E →
      ∃ t, PSs (cxOf CX0 P w K mg base N qual (defScope st) f cd A outer s H E).nox (defBody st) t ∧ t { nx := fun _ H' => Q .non H', rt := Q } (start N vs) H) : FnG P w K mg base (k + 1) f fd ps sp := by
  obtain ⟨oc, od, kV, doc, pm, an, cd, ct, osl, rfl, lk, hcd⟩ := F.ex
  refine ⟨ln, fun {A outer s H args us vs Q E} hg hr e0 hb r h => ?_⟩
  have same : ∀ b o, base.get? b = some o → s.heap.get? b = some o := fun b o z => (e0.bs b o z).1
  have inK := e0.mod.kin.keeps same
  obtain ⟨t, ht, q⟩ := body cd A hg outer s H vs Q E (hr.deeper _) h
  refine codeAny_call_function hr.depth (inK _ _ lk) rfl S.co S.gen rfl (PySem.W.codeRec_of inK hcd) (hb _ _ _ _ (wpAny_newFunctionEnv_cells S.kind (fun y hy => ?_) fun env he s1 z => ?_))
  · obtain ⟨n, v⟩ := y
    exact (S.par n (List.of_mem_zip hy).1).imp id fun c => ⟨c, PySem.W.cellsFrom_some _ _ _ (.inl c)⟩
  · subst he
    refine ⟨(e0.mod.nolimit.keeps same).keeps z.toInCall.keep, codeAny_func (wpAny_mono (ht.nox.run [] s1 (start N vs) H _ (inv_start S hr.hd e0 (ln _ _ _ _ h) r z) q) (fun fl s' d => ?_) fun _ _ d => d)⟩
    cases fl with
    | ret u => obtain ⟨v, σ', H', J, rv, d⟩ := d; exact end_of (X := cxOf CX0 P w K mg base N qual (defScope st) f cd A outer s H E) J rv d
    | next => obtain ⟨σ', H', J, d⟩ := d; exact end_of (X := cxOf CX0 P w K mg base N qual (defScope st) f cd A outer s H E) (v := .non) J rfl d
    | brk => obtain ⟨_, _, _, d⟩ := d; exact d.elim
    | cont => obtain ⟨_, _, _, d⟩ := d; exact d.elim
end
section
variable {X : Cx} {k : Nat} {f : Addr} {fd : FuncData} {ps : List Str} {sp : Sp} {E : XK} {x : Str} {p pos : Pos} {e : Expr} {es : List Expr} {t : TA}
theorem pe_callG (F : FnG X.prog X.w X.K X.mg X.base k f fd ps sp) (gd : X.A.guards = some []) (hr : Room k X.A) (hg : Gl X x) (hm : X.mg x = some (.ref f)) (hk : PySem.W.keepIn X.K (.ref f) = true) (hb : Binds X.K fd ps []) (hx : Passes CX0 X E) (ha : PA X (e :: es) t)
    (hdb : (x == ("__debug__" : Str)) = false := by decide) (he : starEach (e :: es) X.env = (false, eval e X.env) :: starEach es X.env := by rfl) (hpl : (backTo pos (starEach es X.env)).any (·.1) = false := by rfl) :
    PE X (.Call (.Name x p) (e :: es) [] pos) (tCall sp [] E t) :=
  ⟨fun pins s σ H Q I h => wpAny_Call_Name_kw (ld_glob I hg hm (PySem.W.callWith_K (h₀ := X.base) I.ok.mod.kin hk (thn (ha.run pos pins s σ H _ I h) fun us s1 ⟨vs, H1, I1, r, q⟩ => ⟨I1.kIn, by
    have q' : sp vs H1 Q E := by have := q; simp only [List.append_nil] at this; exact this
    have hl : us.length = ps.length := r.length.symm.trans (F.ln _ _ _ _ q')
    have bd : BindsTo s1 fd ⟨us, []⟩ (ps.zip us) := by have := hb s1 us I1.kIn (by simpa using hl); simpa using this
    refine wpAny_call (codeAny_mono (F.go gd hr I1.env0 bd r q') fun r s' d => ?_)
    cases r with
    | error e => exact hx pins σ H1 s1 e s' I1 d
    | ok fl => cases fl <;> first | exact I1.after d | exact d.elim⟩) he hpl) hdb)⟩
end
/-! ### the top -/
/-- the abstract heap at the top: the script alone, and that only where it is none of the module's own things -/
def topH (K : Fg) (a : Addr) (o : Obj) (ns : List Int) : Hp := fun b => if b = a ∧ K.lookup a = none then some (.frz o (.lst (ns.map V.int))) else none
theorem topH_some {K : Fg} {a b : Addr} {o : Obj} {ns : List Int} {u : HO} (h : topH K a o ns b = some u) : b = a ∧ K.lookup a = none ∧ u = .frz o (.lst (ns.map V.int)) := by
  unfold topH at h
  split at h
  · rename_i c; exact ⟨c.1, c.2, (Option.some.inj h).symm⟩
  · cases h
theorem topH_none {K : Fg} {a b : Addr} {o : Obj} {ns : List Int} (h : ¬ (b = a ∧ K.lookup a = none)) : topH K a o ns b = none := if_neg h
section
variable {P : Program} {w : World} {K : Fg} {mg mb : Str → Option Value} {a fa : Addr} {s : Shared} {vs : List Value} {ns : List Int} {k : Nat} {fd : FuncData} {x : Str} {sp : Sp}
theorem top_seq (KX : K.In s.heap) (ha : s.heap.get? a = some { cls := .type "list", data := .seq vs.toArray }) (hi : IntsAre vs ns) (hl : ns.length ≤ sizeLine) : SqL K (topH K a { cls := .type "list", data := .seq vs.toArray } ns) a (ns.map V.int) := by
  cases e : K.lookup a with
  | none => exact .inl (.inr ⟨_, if_pos ⟨rfl, e⟩⟩)
  | some o =>
    have := (KX a o e).symm.trans ha
    cases this
    exact .inr ⟨_, vs.toArray, _, e, rfl, rfl, rfl, by rw [List.size_toArray, hi.length]; exact hl, by simpa using vals_ints hi⟩
theorem top_ok (ha : s.heap.get? a = some { cls := .type "list", data := .seq vs.toArray }) (hi : IntsAre vs ns) (hl : ns.length ≤ sizeLine) : HOk P w (topH K a { cls := .type "list", data := .seq vs.toArray } ns) s.heap := fun b u z => by
  obtain ⟨rfl, _, rfl⟩ := topH_some z
  exact ⟨ha, by rw [List.length_map]; exact hl, vs, _, vals_ints hi, ha⟩
theorem top_env (KX : K.In s.heap) (hns : s.heap.Ns mainGlobals mg) (hb : s.heap.Ns builtinsNs mb) (hbb : ∀ x : Str, x ≠ "__name__" → mb x = bootBuiltins x) (hlim : s.heap.NoLimit) (hg : s.gens = #[]) (ha : s.heap.get? a = some { cls := .type "list", data := .seq vs.toArray }) (hi : IntsAre vs ns) (hl : ns.length ≤ sizeLine) :
    K.In (hidT s.heap (topH K a { cls := .type "list", data := .seq vs.toArray } ns)) ∧ (hidT s.heap (topH K a { cls := .type "list", data := .seq vs.toArray } ns)).Ns mainGlobals mg ∧
      Env0 P w K mg (hidT s.heap (topH K a { cls := .type "list", data := .seq vs.toArray } ns)) callerA [] s (topH K a { cls := .type "list", data := .seq vs.toArray } ns) := by
  let H := topH K a { cls := .type "list", data := .seq vs.toArray } ns
  have stay : ∀ {b : Addr} {o : Obj}, s.heap.get? b = some o → (b = a → K.lookup a = none → False) → (hidT s.heap H).get? b = some o := fun z n => hidT_get z (topH_none fun c => n c.1 c.2)
  have ns' : ∀ {b : Addr} {m : Str → Option Value}, s.heap.Ns b m → (hidT s.heap H).Ns b m := fun {b m} z => by
    obtain ⟨o, es, ep, z1, z2, z3⟩ := z
    refine ⟨o, es, ep, stay z1 fun c _ => ?_, z2, z3⟩
    subst c
    rw [ha] at z1
    cases z1
    cases z2
  have kin : K.In (hidT s.heap H) := fun b o z => stay (KX b o z) fun c n => by subst c; rw [n] at z; cases z
  obtain ⟨mc, l1, l2⟩ := hlim
  exact ⟨kin, ns' hns, rfl, ⟨kin, ns' hns, ⟨mb, ns' hb, hbb⟩, mc, ns' l1, l2⟩, fun b o z => of_hidT z, Nat.le_of_eq (hidT_size _ _), trivial, fun b z => (nomatch z), top_ok ha hi hl, .of_eq hg⟩
theorem top_law (KX : K.In s.heap) (hns : s.heap.Ns mainGlobals mg) (hb : s.heap.Ns builtinsNs mb) (hbb : ∀ x : Str, x ≠ "__name__" → mb x = bootBuiltins x) (hlim : s.heap.NoLimit) (hg : s.gens = #[]) (ha : s.heap.get? a = some { cls := .type "list", data := .seq vs.toArray }) (hi : IntsAre vs ns) (hl : ns.length ≤ sizeLine)
    (hr : Room k callerA) (F : ∀ base : Heap, K.In base → base.Ns mainGlobals mg → FnG P w K mg base k fa fd [x] sp) (hbind : ∀ (s : Shared) (u : Value), BindsTo s fd ⟨[u], []⟩ [(x, u)])
    (hsp : ∀ H : Hp, Only H → SqL K H a (ns.map V.int) → sp [.ref a] H (fun v _ => v = .bl true) fun _ _ _ => False) :
    codeAny (model P w) callerA (.call (.ref fa) ⟨[.ref a], []⟩) (fun r s' => r = .ok (.ret (.bool true)) ∧ OldK s.heap s'.heap ∧ s'.os = s.os ∧ AllBare s'.gens) s := by
  obtain ⟨kin, hn, e0⟩ := top_env (P := P) (w := w) KX hns hb hbb hlim hg ha hi hl
  have only : Only (topH K a { cls := .type "list", data := .seq vs.toArray } ns) := fun b => by
    cases z : topH K a { cls := .type "list", data := .seq vs.toArray } ns b with
    | none => exact .inl rfl
    | some u => obtain ⟨_, _, rfl⟩ := topH_some z; exact .inr ⟨_, _, rfl⟩
  refine codeAny_mono ((F _ kin hn).go (us := [.ref a]) (vs := [.ref a]) rfl hr e0 (hbind s (.ref a)) (.cons rfl .nil) (hsp _ only (top_seq KX ha hi hl))) fun r s' d => ?_
  cases r with
  | error e => exact absurd d (by intro z; exact z.elim)
  | ok fl =>
    cases fl with
    | next => exact d.elim
    | brk => exact d.elim
    | cont => exact d.elim
    | ret u =>
      obtain ⟨v, H', hos, hbare, un, ok', rv, rfl⟩ := d
      cases (show u = Value.bool true from rv)
      refine ⟨rfl, OldK.of_keep fun b o z => ?_, hos, hbare⟩
      cases q : topH K a { cls := .type "list", data := .seq vs.toArray } ns b with
      | none => exact un.keep b o z q (fun c => nomatch c) (fun c => nomatch c)
      | some u =>
        obtain ⟨rfl, _, rfl⟩ := topH_some q
        have := (ok' _ _ (un.frzs _ _ _ q)).1
        rw [ha] at z
        cases z
        exact this
end
theorem walkG {l : PySem.W.OpenLaw} {n k : Nat} {q : Program} {loose : List Str} {XP : (Str → Option Value) → Heap → Prop} {YP : World → Heap → Prop} {d : DefRec} {K : Params → Fg} {sp : World → Sp} {x : Str} (hn : l.most = some n) (hn2 : n ≤ sizeLine) (hdf : d.params.defaults = []) (hr : Room k callerA)
    (hY : ∀ (w : World) (h : Heap), YP w h → (K w.params).In h)
    (F : ∀ (w : World) (mg : Str → Option Value) (fa : Addr) (h : Heap), (K w.params).In h → h.Ns mainGlobals mg → mg d.name = some (.ref fa) → ∃ fd : FuncData, (∀ (s : Shared) (u : Value), BindsTo s fd ⟨[u], []⟩ [(x, u)]) ∧
      ∀ base : Heap, (K w.params).In base → base.Ns mainGlobals mg → FnG l.prog w (K w.params) mg base k fa fd [x] (sp w))
    (hsp : ∀ (w : World) (H : Hp) (a : Addr) (ns : List Int), ns.length ≤ n → Only H → SqL (K w.params) H a (ns.map V.int) → sp w [.ref a] H (fun v _ => v = .bl true) fun _ _ _ => False) :
    PySem.W.WalkO q loose XP YP l.row.toRowW d [] (fun f vs => PySem.call f vs) :=
  Att.attach_call hn hdf fun w s₀ s₁ mg mb fa o pm cd doc a vs ns G Y ho hd hcd hmg hobj hints hlen hg => by
    obtain ⟨fd, hb, hF⟩ := F w mg fa _ (hY w _ Y) G.T.g hmg
    exact top_law (hY w _ Y) G.T.g G.T.b G.T.builtins G.T.nolimit hg hobj hints (Nat.le_trans hlen hn2) hr hF hb fun H hO hS => hsp w H a ns hlen hO hS
/-! ### repr(list) -/
def rRepr (K : Fg) : List V → Hp → VK → Prop := fun vs H Q => ∃ x d, vs = [x] ∧ Dp K H x (.list d) ∧ PyData.showableAll d = true ∧ PyData.hasDictAll d = false ∧ PyData.depthAll d ≤ 40 ∧ (listText (PyData.shownAll d)).length ≤ sizeLine ∧ Q (.str (listText (PyData.shownAll d))) H
section
variable {prog : Program} {w : World} {A : Around} {E : Value → Shared → Prop} {s : Shared}
theorem repr_list {v : Value} {d : List PyData} {az : List Addr} {Q : Value → Shared → Prop} (r : Reads s.heap v (.list d) az) (hs : PyData.showableAll d = true) (hd : PyData.hasDictAll d = false) (hg : A.guards = some []) (hu : A.units + 60 < cLine) (h40 : PyData.depthAll d ≤ 40) (hz : (listText (PyData.shownAll d)).length ≤ sizeLine)
    (hQ : ∀ h' u tk, (∀ b o, s.heap.get? b = some o → h'.get? b = some o) → Q (.str (listText (PyData.shownAll d)) u) { s with heap := h', toks := tk }) : wpAny (model prog w) A (call (.builtin "repr") [v]) Q E s := by
  have r0 := r
  cases r with
  | list h1 h2 h3 h4 =>
    rename_i a o vs n az'
    obtain ⟨bs, hb, hk⟩ := ReprAllK.of_readsAll (prog := prog) (w := w) h4 hs (fun hx => by rw [hd] at hx; cases hx) (fun t ht => Nat.le_trans (listText_mem_le ht) hz)
    have hna : a ∉ bs := not_mem_of_deeper r0 (by simp only [PyData.depth]; omega) hb
    have hTy : s.TypeIs (.ref a) "list" := ⟨o, h1, h2⟩
    refine Calls.call_function_entry F.kind_repr F.plain_repr F.entry_repr (F.args_repr1 _) ?_
    unfold Builtin.«repr»
    refine wpAny_bind (m := oneArg "repr" _) (wpAny_pure ?_)
    refine wpAny_bind (wpAny_cRoomFor (by show A.units + 1 < _; omega) ?_)
    refine wpAny_bind (wpAny_specialOf (name := Str.ofString "__repr__") hTy F.slot_list_repr.lookup ?_)
    have fin : ∀ h' u tk, (∀ b o, s.heap.get? b = some o → h'.get? b = some o) → wpAny (model prog w) A.in1 (isInstance (.str (listText (PyData.shownAll d)) u) (.type "str") >>= fun b => if b = true then ret (.str (listText (PyData.shownAll d)) u) else rule "repr.not-str" >>= fun _ => typeNameOf (.str (listText (PyData.shownAll d)) u) >>= fun nm => raiseError "TypeError" s!"__repr__ returned non-string (type {nm})")
        (fun fin s' => ∃ v, fin = .done (.ret v) ∧ Q v s') E { s with heap := h', toks := tk } := fun h' u tk hk =>
      wpAny_bind (wpAny_isInstance (T := "str") (b := true) rfl isSubtype_str_str (wpAny_pure ⟨_, rfl, hQ h' u tk hk⟩))
    obtain ⟨l⟩ := vs
    refine wpAny_bind (m := callSpecialIfBound? (.ref a) (Str.ofString "__repr__")) (wpAny_callSpecialIfBound?_slot (name := Str.ofString "__repr__") hTy F.slot_list_repr ?_)
    cases l with
    | nil =>
      have h4' : ReadsAll s.heap [] d _ := h4
      cases h4'
      exact call_list_repr_empty hTy h1 h3 (fin s.heap _ _ fun _ _ e => e)
    | cons x l =>
      exact call_list_reprK h1 h2 h3 hna (by simpa using hk.length_eq) (fun i y e => hk.item i y (by simpa using e)) (show A.in1.guards = some [] from hg) (fun b _ => Clear.nil b) (by show A.units + 1 + _ < _; omega) (fun _ _ e => e) (fun h' u tk hk' => fin h' u tk hk') hz
end
theorem cr_repr {X : Cx} (hg : X.A.guards = some []) (hu : X.A.units + 64 < cLine) : CallR X (.builtin "repr") (rRepr X.K) := by
  intro pins s σ H xs us Q I r h
  obtain ⟨x, d, rfl, hd, h1, h2, h3, h4, q⟩ := h
  obtain ⟨u, rfl, ru⟩ := vals1 r
  obtain ⟨az, rd⟩ := Dp.reads I _ _ _ hd ru
  exact repr_list rd h1 h2 hg (by omega) h3 h4 fun h' u tk hk => ⟨.str _, H, I.kept hk, ⟨_, rfl⟩, q⟩
end B
/-! B: dicts that change, told by any expression; dict comprehensions with tests; sorted keys -/
namespace B
open PySem L2
open PySem.W (Tup T3 T4 Datum DatumOrd)
open Evl (Ex)
section
variable {κ α : Type} [DecidableEq κ] [PyKey κ] [Py α] {K : Fg} {W W' : Wd} {d : Addr} {kv : List (κ × α)} {ε : Ef} {σ : SS} {te ty tv tx : TE}
/-- the dict at d holds kv, now and while ε is at work -/
def DStay {κ α : Type} [PyKey κ] [Py α] (ε : Ef) (K : Fg) (W : Wd) (d : Addr) (kv : List (κ × α)) : Prop := ∀ W', Stp ε W W' → ∃ ks, W'.H d = some (.dK ks) ∧ KReps K W'.B ks kv
theorem DMut.stay (m : DMut K W d kv) (hS : d ∉ ε.S) : DStay ε K W d kv := fun _ g => (m.s g hS).ex
theorem DMut.pur (m : DMut K W d kv) : DStay pur K W d kv := fun _ g => (m.gr g.pure).ex
theorem DictAt.stay {D : Dict κ α} (h : DictAt K W (.ref d) D) : DStay ε K W d D.kv := fun W' g => by
  obtain ⟨a, ks, e, _, h2, r⟩ := h.s g
  cases e
  exact ⟨ks, h2, r⟩
/-- d.get(k, x) -/
theorem ev_dget2E {k : κ} {x : α} (hd : EvR ε K te σ W (Raw.mk (.ref d))) (m : DStay ε K W d kv) (hk : EvP ε ty σ W (fun u _ => u = kV (PyKey.key k))) (hx : EvR ε K tx σ W x) : EvR ε K (tDGet2 te ty tx) σ W ((klook kv k).getD x) := fun W1 g1 Q q => hd W1 g1 _ fun v W1' g1' e => by
  obtain ⟨ks, e1, r⟩ := m _ (g1.trans g1')
  refine ⟨d, e, .inl ⟨ks, .inl e1⟩, hk W1' (g1.trans g1') _ fun u W2 g2 eu => hx W2 ((g1.trans g1').trans g2) _ fun w W3 g3 rw => ?_⟩
  obtain ⟨ks, e3, r⟩ := m _ (((g1.trans g1').trans g2).trans g3)
  rcases klk r k with ⟨h1, h2⟩ | ⟨y, v, h1, h2, h3⟩
  · exact ⟨none, .inl ⟨ks, _, .inl e3, eu, h2.symm⟩, q _ W3 ((g1'.trans g2).trans g3) (by rw [h1]; exact rw)⟩
  · exact ⟨some v, .inl ⟨ks, _, .inl e3, eu, h2.symm⟩, q _ W3 ((g1'.trans g2).trans g3) (by rw [h1]; exact h3)⟩
/-- d[k] -/
theorem ev_dgetE {k : κ} {x : α} (hd : EvR ε K te σ W (Raw.mk (.ref d))) (m : DStay ε K W d kv) (hk : EvP ε ty σ W (fun u _ => u = kV (PyKey.key k))) (hx : klook kv k = some x) : EvR ε K (tDGet te ty) σ W x := fun W1 g1 Q q => hd W1 g1 _ fun v W1' g1' e => hk W1' (g1.trans g1') _ fun u W2 g2 eu => by
  obtain ⟨ks, e3, r⟩ := m _ ((g1.trans g1').trans g2)
  obtain ⟨v, h1, h2⟩ := r.some hx
  exact ⟨d, v, e, .inl ⟨ks, _, .inl e3, eu, h1.symm⟩, q _ W2 (g1'.trans g2) h2⟩
/-- k in d -/
theorem ev_dinE {k : κ} (hd : EvR ε K te σ W (Raw.mk (.ref d))) (m : DStay ε K W d kv) (hk : EvP ε ty σ W (fun u _ => u = kV (PyKey.key k))) : EvR ε K (tDIn ty te) σ W (decide (k ∈ kv.map (·.1))) := fun W1 g1 Q q => hk W1 g1 _ fun u W2 g2 eu => hd W2 (g1.trans g2) _ fun v W3 g3 e => by
  obtain ⟨ks, e3, r⟩ := m _ ((g1.trans g2).trans g3)
  rcases klk r k with ⟨h1, h2⟩ | ⟨y, v, h1, h2, h3⟩
  · refine ⟨d, none, e, .inl ⟨ks, _, .inl e3, eu, h2.symm⟩, q _ W3 (g2.trans g3) ?_⟩
    show V.bl _ = V.bl _
    rw [decide_eq_false (klook_none.mp h1)]; rfl
  · refine ⟨d, some v, e, .inl ⟨ks, _, .inl e3, eu, h2.symm⟩, q _ W3 (g2.trans g3) ?_⟩
    show V.bl _ = V.bl _
    rw [decide_eq_true (List.mem_map.mpr ⟨_, klook_mem h1, rfl⟩)]; rfl
/-- len(d) -/
theorem ev_lenDE (hd : EvR ε K te σ W (Raw.mk (.ref d))) (m : DStay ε K W d kv) : EvR ε K (tCB rLenD (tCons te tNil)) σ W (kv.length : Int) := fun W1 g1 Q q => hd W1 g1 _ fun v W2 g2 e => by
  obtain ⟨ks, e3, r⟩ := m _ (g1.trans g2)
  refine ⟨d, ks, by rw [show v = V.ref d from e], e3, ?_⟩
  rw [KReps.len r]
  exact q _ W2 g2 rfl
/-- d[k] = v -/
theorem s_dputE {D : Ends} {k : κ} {x : α} (hd : EvR pur K te σ W (Raw.mk (.ref d))) (m : DMut K W d kv) (hv : EvR pur K tv σ W x) (hk : EvP pur ty σ W (fun u _ => u = kV (PyKey.key k))) (hl : kv.length < 100000)
    (q : ∀ W', Md [d] W W' → On W W' → DMut K W' d (kput kv k x) → D.nx σ W'.H) : sDPut te ty tv D σ W.H := hv W (.start trivial) _ fun v W1 g1 rv => hd W1 g1 _ fun v0 W1' g1' e0 => hk W1' (g1.trans g1') _ fun u W2 g2 e => by
  have g := ((g1.trans g1').trans g2).pure
  obtain ⟨ks, e1, r⟩ := (m.gr g).ex
  have b := (m.gr g).b
  exact ⟨d, _, e0, .inl ⟨ks, PyKey.key k, e1, e, by rw [KReps.len r]; exact Evl.sz_lt hl, rfl⟩, q (W2.put d _ b) ((Grow.s g).trans (md_put b)) (g.on.trans (md_put b).on) ⟨b, _, upd_same, KReps.put r k (rep_s (g1'.trans g2) rv)⟩⟩
theorem q_dputE {D : Ends} {tz : TS} {k : κ} {x : α} (hd : EvR pur K te σ W (Raw.mk (.ref d))) (m : DMut K W d kv) (hv : EvR pur K tv σ W x) (hk : EvP pur ty σ W (fun u _ => u = kV (PyKey.key k))) (hl : kv.length < 100000)
    (q : ∀ W', Md [d] W W' → On W W' → DMut K W' d (kput kv k x) → tz D σ W'.H) : tSeq (sDPut te ty tv) tz D σ W.H := s_dputE (D := { D with nx := tz D }) hd m hv hk hl q
/-- d.pop(k), the value left alone -/
theorem s_dpopE {D : Ends} {k : κ} {x : α} (hd : EvR pur K te σ W (Raw.mk (.ref d))) (m : DMut K W d kv) (hk : EvP pur ty σ W (fun u _ => u = kV (PyKey.key k))) (hx : klook kv k = some x)
    (q : ∀ W', Md [d] W W' → On W W' → DMut K W' d (kdrop kv k) → D.nx σ W'.H) : tDrop (tDPop1 te ty) D σ W.H := hd W (.start trivial) _ fun v0 W1 g1 e0 => by
  obtain ⟨ks, e1, r⟩ := (m.gr g1.pure).ex
  refine ⟨d, e0, .inl ⟨ks, .inl e1⟩, hk W1 g1 _ fun u W2 g2 e => ?_⟩
  have g := (g1.trans g2).pure
  obtain ⟨ks, e1, r⟩ := (m.gr g).ex
  have b := (m.gr g).b
  obtain ⟨v, h1, h2⟩ := r.some hx
  exact ⟨ks, PyKey.key k, v, e1, e, h1, q (W2.put d _ b) ((Grow.s g).trans (md_put b)) (g.on.trans (md_put b).on) ⟨b, _, upd_same, KReps.drop r k⟩⟩
/-- d, where it is a dict that stays -/
theorem DictAt.mut' {v : V} {κ α : Type} [PyKey κ] [Py α] {D : Dict κ α} (h : DictAt K W v D) : ∃ a ks, v = .ref a ∧ W.H a = some (.dK ks) ∧ KReps K W.B ks D.kv := by
  obtain ⟨a, ks, e, _, h2, r⟩ := h
  exact ⟨a, ks, e, h2, r⟩
end
section
variable {κ : Type} [DecidableEq κ] [PyKey κ] {K : Fg} {W : Wd} {d : Addr} {kv : List (κ × Int)} {ε : Ef} {σ : SS} {te : TE}
/-- sum(d.values()) -/
theorem ev_sumVE (hd : EvR ε K te σ W (Raw.mk (.ref d))) (m : DStay ε K W d kv) : EvR ε K (tCB rSumV (tCons (tVals te) tNil)) σ W (kv.map (·.2)).sum := fun W1 g1 Q k => hd W1 g1 _ fun v W2 g2 e => by
  obtain ⟨ks, e3, r⟩ := m _ (g1.trans g2)
  refine ⟨d, ks, e, e3, fun v hv => ?_⟩
  refine ⟨v, d, ks, kv.map (·.2), rfl, upd_same, by rw [upd_ne (fun z => by rw [z, hv] at e3; cases e3)]; exact e3, kreps_ints r, ?_⟩
  exact k _ (W2.put v (viewHO v d) (W2.free hv)) (g2.and (W2.grow_put hv)) rfl
/-- min(d.values()) -/
theorem ev_minVE {i : Int} (hd : EvR ε K te σ W (Raw.mk (.ref d))) (m : DStay ε K W d kv) (h1 : i ∈ kv.map (·.2)) (h2 : ∀ y ∈ kv.map (·.2), i ≤ y) : EvR ε K (tCB rMinV (tCons (tVals te) tNil)) σ W i := fun W1 g1 Q k => hd W1 g1 _ fun v W2 g2 e => by
  obtain ⟨ks, e3, r⟩ := m _ (g1.trans g2)
  refine ⟨d, ks, e, e3, fun v hv => ?_⟩
  refine ⟨v, d, ks, kv.map (·.2), rfl, upd_same, by rw [upd_ne (fun z => by rw [z, hv] at e3; cases e3)]; exact e3, kreps_ints r, List.length_pos_of_mem h1, fun m' h3 h4 => ?_⟩
  have : m' = i := Int.le_antisymm (h4 i h1) (h2 m' h3)
  rw [this]
  exact k _ (W2.put v (viewHO v d) (W2.free hv)) (g2.and (W2.grow_put hv)) rfl
end
section
variable {κ α : Type} [PyKV κ] [Py α] {K : Fg} {W : Wd} {d : Addr} {kv : List (κ × α)} {ε : Ef} {σ : SS} {te : TE}
theorem kreps_keys {H H' : Hp} {ks : List (Key × V)} {kv : List (κ × α)} (r : KReps K H ks kv) : Reps K H' (ks.map fun q => kV q.1) (kv.map (·.1)) := by
  induction r with
  | nil => exact .nil
  | @cons p q _ _ a b ih => exact .cons (by show Py.rep K H' (kV p.1) q.1; rw [a.1]; exact PyKV.krep _ _ _) ih
/-- list(d) -/
theorem ev_listDE (hd : EvR ε K te σ W (Raw.mk (.ref d))) (m : DStay ε K W d kv) : EvR ε K (tCB rListD (tCons te tNil)) σ W (kv.map (·.1)) := fun W1 g1 Q q => hd W1 g1 _ fun v W2 g2 e => by
  obtain ⟨ks, e3, r⟩ := m _ (g1.trans g2)
  exact ⟨d, ks, by rw [show v = V.ref d from e], e3, fun p hp => q _ (W2.add p _) (g2.and (W2.grow_add hp)) ⟨p, _, rfl, upd_same, kreps_keys r⟩⟩
end
/-! ### keys in order -/
def sle (a b : Str) : Bool := decide (a.cps.toList ≤ b.cps.toList)
theorem sle_trans {a b c : Str} (h : sle a b = true) (h' : sle b c = true) : sle a c = true := by
  simp only [sle, decide_eq_true_eq] at *
  exact List.le_trans h h'
theorem sle_total (a b : Str) : sle a b = true ∨ sle b a = true := by
  simp only [sle, decide_eq_true_eq]
  exact List.le_total _ _
theorem sle_anti {a b : Str} (h : sle a b = true) (h' : sle b a = true) : a = b := by
  simp only [sle, decide_eq_true_eq] at *
  have := List.le_antisymm h h'
  cases a with
  | mk x => cases b with
    | mk y => exact congrArg Str.mk (Array.toList_inj.mp this)
theorem rising_pw : ∀ (r : List Str) (p : Str), PyProof.Rows.risingS p r = true → (p :: r).Pairwise (fun a b => sle a b = true)
  | [], p, _ => by simp
  | x :: r, p, h => by
    simp only [PyProof.Rows.risingS, Bool.and_eq_true, Bool.not_eq_true'] at h
    have ih := rising_pw r x h.2
    rw [List.pairwise_cons]
    have px : sle p x = true := by
      have := h.1
      rw [PyProof.Rows.ltCps_eq] at this
      have := of_decide_eq_false this
      simp only [sle, decide_eq_true_eq]
      exact List.not_lt.mp this
    refine ⟨fun a ha => ?_, ih⟩
    rcases List.mem_cons.mp ha with rfl | ha
    · exact px
    · exact sle_trans px ((List.pairwise_cons.mp ih).1 a ha)
theorem sorted_pw {ys : List Str} (h : PyProof.Rows.sortedS ys = true) : ys.Pairwise (fun a b => sle a b = true) := by
  cases ys with
  | nil => exact .nil
  | cons x r => exact rising_pw r x h
theorem str_sorted_uniq {xs ys : List Str} (hp : xs.Perm ys) (h1 : xs.Pairwise (fun a b => sle a b = true)) (h2 : ys.Pairwise (fun a b => sle a b = true)) : xs = ys :=
  hp.eq_of_pairwise (fun a b _ _ h h' => sle_anti h h') h1 h2
def sortS (xs : List Str) : List Str := xs.mergeSort sle
theorem sortS_perm (xs : List Str) : (sortS xs).Perm xs := List.mergeSort_perm _ _
theorem sortS_pw (xs : List Str) : (sortS xs).Pairwise (fun a b => sle a b = true) := List.pairwise_mergeSort (le := sle) (fun _ _ _ => sle_trans) (fun a b => by rcases sle_total a b with h | h <;> simp [h]) xs
theorem sortS_eq {xs ys : List Str} (hp : ys.Perm xs) (h : ys.Pairwise (fun a b => sle a b = true)) : ys = sortS xs := str_sorted_uniq (hp.trans (sortS_perm xs).symm) h (sortS_pw xs)
abbrev rSortedDS : List V → Hp → VK → Prop := fun xs H Q => ∃ (a : Addr) (kvs : List (Key × V)) (ks : List Str), xs = [.ref a] ∧ Rd H a (.dK kvs) ∧ kvs.map (·.1) = ks.map Sum.inr ∧ ks.length < 64 ∧ ∀ ys p, ys.Perm ks → PyProof.Rows.sortedS ys = true → H p = none → Q (.ref p) (upd H p (.lst (ys.map V.str)))
abbrev rSortedDI : List V → Hp → VK → Prop := fun xs H Q => ∃ (a : Addr) (kvs : List (Key × V)) (ks : List Int), xs = [.ref a] ∧ Rd H a (.dK kvs) ∧ kvs.map (·.1) = ks.map Sum.inl ∧ ks.length < 64 ∧ ∀ (ys : List Int) (p : Addr), ys.Perm ks → ys.Pairwise (· ≤ ·) → H p = none → Q (.ref p) (upd H p (.lst (ys.map V.int)))
theorem cr_sortedDS {X : Cx} (hc : X.calm = true := by rfl) : CallR X (.builtin "sorted") rSortedDS := call_sortedD hc
theorem cr_sortedDI {X : Cx} (hc : X.calm = true := by rfl) : CallR X (.builtin "sorted") rSortedDI := call_sortedDI hc
section
variable {α : Type} [Py α] {K : Fg} {W : Wd} {d : Addr} {ε : Ef} {σ : SS} {te : TE}
theorem kreps_keysS {H : Hp} {ks : List (Key × V)} {kv : List (Str × α)} (r : KReps K H ks kv) : ks.map (·.1) = (kv.map (·.1)).map Sum.inr := by
  induction r with
  | nil => rfl
  | cons a b ih => rw [List.map_cons, List.map_cons, List.map_cons, ih, a.1]; rfl
theorem kreps_keysI {H : Hp} {ks : List (Key × V)} {kv : List (Int × α)} (r : KReps K H ks kv) : ks.map (·.1) = (kv.map (·.1)).map Sum.inl := by
  induction r with
  | nil => rfl
  | cons a b ih => rw [List.map_cons, List.map_cons, List.map_cons, ih, a.1]; rfl
/-- sorted(d) -/
theorem ev_sortedDS {kv : List (Str × α)} (hd : EvR ε K te σ W (⟨kv⟩ : Dict Str α)) (hl : kv.length < 64) : EvR ε K (tCB rSortedDS (tCons te tNil)) σ W (sortS (kv.map (·.1))) := fun W1 g1 Q k => hd W1 g1 _ fun v W2 g2 ⟨a, ks, e, rd, r⟩ =>
  ⟨a, ks, kv.map (·.1), by rw [e], W2.sub.rd rd, kreps_keysS r, by simpa using hl, fun ys p h1 h2 hp => by
    rw [sortS_eq h1 (sorted_pw h2)]
    exact k _ (W2.add p _) (g2.and (W2.grow_add hp)) ⟨p, _, rfl, upd_same, str_reps _⟩⟩
theorem ev_sortedDI {kv : List (Int × α)} {ys : List Int} (hd : EvR ε K te σ W (⟨kv⟩ : Dict Int α)) (hl : kv.length < 64) (hp : ys.Perm (kv.map (·.1))) (ho : ys.Pairwise (· ≤ ·)) : EvR ε K (tCB rSortedDI (tCons te tNil)) σ W ys := fun W1 g1 Q k => hd W1 g1 _ fun v W2 g2 ⟨a, ks, e, rd, r⟩ =>
  ⟨a, ks, kv.map (·.1), by rw [e], W2.sub.rd rd, kreps_keysI r, by simpa using hl, fun zs p h1 h2 hp0 => by
    have e2 : zs = ys := (h1.trans hp.symm).eq_of_pairwise (fun a b _ _ h h' => Int.le_antisymm h h') h2 ho
    subst e2
    exact k _ (W2.add p _) (g2.and (W2.grow_add hp0)) ⟨p, _, rfl, upd_same, int_reps _⟩⟩
end
end B
/-! B: new dicts that may change: comprehensions with targets and tests, also over a locked dict -/
namespace B
open PySem L2
open PySem.W (Tup T3 T4 Datum DatumOrd)
open Evl (Ex)
/-- a new dict that may change -/
def EvM {κ α : Type} [DecidableEq κ] [PyKey κ] [Py α] (ε : Ef) (K : Fg) (te : TE) (σ : SS) (W : Wd) (kv : List (κ × α)) : Prop :=
  ∀ W1, Stp ε W W1 → ∀ Q : VK, (∀ p W2, Stp ε W1 W2 → W1.H p = none → DMut K W2 p kv → Q (.ref p) W2.H) → te σ W1.H Q
def kfill {κ α : Type} [DecidableEq κ] (l : List (κ × α)) : List (κ × α) := l.foldl (fun kv e => kput kv e.1 e.2) []
theorem kput_new {κ α : Type} [DecidableEq κ] {kv : List (κ × α)} {k : κ} {v : α} (h : k ∉ kv.map (·.1)) : kput kv k v = kv ++ [(k, v)] := by
  unfold kput
  rw [if_neg]
  intro z
  obtain ⟨q, h1, h2⟩ := List.any_eq_true.mp z
  exact h (List.mem_map.mpr ⟨q, h1, of_decide_eq_true h2⟩)
theorem kfill_app {κ α : Type} [DecidableEq κ] : ∀ (l kv : List (κ × α)), ((kv ++ l).map (·.1)).Nodup → l.foldl (fun kv e => kput kv e.1 e.2) kv = kv ++ l
  | [], kv, _ => by simp
  | e :: l, kv, n => by
    have h : e.1 ∉ kv.map (·.1) := by
      rw [List.map_append, List.nodup_append] at n
      intro z
      exact n.2.2 _ z e.1 (by simp) rfl
    rw [List.foldl_cons, kput_new h, kfill_app l (kv ++ [(e.1, e.2)]) (by simpa using n)]
    simp
theorem kfill_id {κ α : Type} [DecidableEq κ] {l : List (κ × α)} (n : (l.map (·.1)).Nodup) : kfill l = l := kfill_app l [] (by simpa using n)
theorem kfill_len {κ α : Type} [DecidableEq κ] : ∀ (l kv : List (κ × α)), (l.foldl (fun kv e => kput kv e.1 e.2) kv).length ≤ kv.length + l.length
  | [], kv => by simp
  | e :: l, kv => by
    rw [List.foldl_cons]
    have := kfill_len l (kput kv e.1 e.2)
    have := kput_len kv e.1 e.2
    rw [List.length_cons]; omega
section
variable {α β κ : Type} [Py α] [Py β] [DecidableEq κ] [PyKey κ] {K : Fg} {W : Wd} {σ : SS} {ε : Ef} {te tk tv : TE} {tt : TT} {wi : TI} {tg : TG} {vs : List Nat}
theorem EvM.toD {kv : List (κ × α)} (h : EvM ε K te σ W kv) : EvD ε K te σ W (⟨kv⟩ : Dict κ α) := fun W1 g1 Q k => h W1 g1 Q fun p W2 g2 f m => by
  obtain ⟨ks, e, r⟩ := m.ex
  exact k _ (W2.fix p _ e) (g2.fix f g1.i e m.b) ⟨p, ks, rfl, upd_same, e, KReps.mono (exExt (ex_fix e m.b)) r⟩
theorem EvM.is {kv kv' : List (κ × α)} (h : EvM ε K te σ W kv) (e : kv = kv') : EvM ε K te σ W kv' := e ▸ h
theorem em_new : EvM ε K tDNewK σ W ([] : List (κ × α)) := fun W1 g1 Q k p hp => k p (W1.put p (.dK []) (W1.free hp)) (g1.rf.and (W1.grow_put hp)) hp (DMut.new W1 hp)
theorem s_asgM {D : Ends} {i : Nat} {kv : List (κ × α)} (h : EvM ε K te σ W kv) (s : ε.I W) (k : ∀ p W', Stp ε W W' → W.H p = none → DMut K W' p kv → D.nx (σ.set i (some (.ref p))) W'.H) : tAsg te (gName i) D σ W.H := h W (.start s) _ k
theorem q_asgM {D : Ends} {tz : TS} {i : Nat} {kv : List (κ × α)} (h : EvM ε K te σ W kv) (s : ε.I W) (k : ∀ p W', Stp ε W W' → W.H p = none → DMut K W' p kv → tz D (σ.set i (some (.ref p))) W'.H) : tSeq (tAsg te (gName i)) tz D σ W.H := h W (.start s) _ k
theorem s_retM {D : Ends} {kv : List (κ × α)} (h : EvM ε K te σ W kv) (s : ε.I W) (k : ∀ p W', Stp ε W W' → W.H p = none → DMut K W' p kv → D.rt (.ref p) W'.H) : tRet te D σ W.H := h W (.start s) _ k
/-- {k: v for x in .. if t} -/
theorem em_dc {xs : List α} {p : α → Bool} {f : α → κ × β} {P : α → SS → SS → Wd → Prop} (hi : EvI ε K wi σ W xs) (hg : GT K tg P) (hw : ∀ x σ2 W', P x (wipe σ vs) σ2 W' → wipe σ2 vs = wipe σ vs)
    (ht : ∀ x W' σ2, x ∈ xs → Stp ε W W' → P x (wipe σ vs) σ2 W' → EvT ε tt σ2 W' (p x))
    (hk : ∀ x W' σ2, x ∈ xs → p x = true → Stp ε W W' → P x (wipe σ vs) σ2 W' → EvP ε tk σ2 W' (fun u _ => u = kV (PyKey.key (f x).1)))
    (he : ∀ x W' σ2, x ∈ xs → p x = true → Stp ε W W' → P x (wipe σ vs) σ2 W' → EvR ε K tv σ2 W' (f x).2)
    (hP : ∀ x σ2 W' W'', P x (wipe σ vs) σ2 W' → Stp ε W' W'' → P x (wipe σ vs) σ2 W'') (hl : xs.length < 100000) : EvM ε K (tDc wi tg tt tk tv vs) σ W (kfill ((xs.filter p).map f)) := fun W1 g1 Q k =>
  hi W1 g1 _ fun J S W2 g2 s2 sg src D hD => by
    have DS : D ∉ ε.S := Ef.off g2.i hD
    have ln : ∀ i, (kfill (((xs.take i).filter p).map f)).length ≤ i := fun i => by
      have h1 := kfill_len (((xs.take i).filter p).map f) ([] : List (κ × β))
      have h2 := List.length_filter_le p (xs.take i)
      have h3 : (xs.take i).length ≤ i := by rw [List.length_take]; omega
      rw [List.length_map] at h1
      have h4 : ([] : List (κ × β)).length = 0 := rfl
      unfold kfill
      omega
    refine ⟨fun i m H => m = xs.length - i ∧ i ≤ xs.length ∧ ∃ Wi, Wi.H = H ∧ Stp ε W2 Wi ∧ DMut K Wi D (kfill (((xs.take i).filter p).map f)), ⟨xs.length, rfl, Nat.zero_le _, W2.put D (.dK []) (W2.free hD), rfl, ⟨md_mut (.refl _ _) (W2.free hD) hD, i_put DS g2.i _⟩, DMut.new W2 hD⟩, ?_⟩
    rintro i m H ⟨rfl, hle, Wi, rfl, gi, dm⟩
    have si : S Wi := sg _ _ s2 gi
    by_cases hlt : i < xs.length
    · refine .inr ⟨src.go i Wi si hlt, fun H => i + 1 ≤ xs.length ∧ ∃ Wi, Wi.H = H ∧ Stp ε W2 Wi ∧ DMut K Wi D (kfill (((xs.take (i + 1)).filter p).map f)), fun H' h' => ⟨_, by omega, rfl, h'⟩, fun v H'' hy => ?_⟩
      obtain ⟨x, W3, rfl, g3', hx, r⟩ := src.yld i Wi v H'' si hlt hy
      have g3 : Stp ε Wi W3 := gi.rf.and g3'
      have hm : x ∈ xs := List.mem_of_getElem? hx
      have tkk : xs.take (i + 1) = xs.take i ++ [x] := by rw [List.take_add_one, hx]; rfl
      refine hg x v W3 _ _ r fun σ2 hp => ⟨hw x σ2 W3 hp, ?_⟩
      have G3 := ((g1.trans g2).trans gi).trans g3
      refine ht x W3 σ2 hm G3 hp W3 g3.rf _ fun W4 g4 => ?_
      have G4 := G3.trans g4
      cases hpx : p x with
      | true =>
        rw [if_pos rfl]
        refine hk x W4 σ2 hm hpx G4 (hP x σ2 W3 W4 hp g4) W4 g4.rf _ fun u W5 g5 eu => ?_
        refine he x W5 σ2 hm hpx (G4.trans g5) (hP x σ2 W4 W5 (hP x σ2 W3 W4 hp g4) g5) W5 g5.rf _ fun w W6 g6 rw' => ?_
        have G6 : Stp ε Wi W6 := ((g3.trans g4).trans g5).trans g6
        obtain ⟨ks, e6, r6⟩ := (dm.s G6 DS).ex
        have b6 := (dm.s G6 DS).b
        have ef : kfill (((xs.take (i + 1)).filter p).map f) = kput (kfill (((xs.take i).filter p).map f)) (f x).1 (f x).2 := by
          rw [tkk, List.filter_append, List.map_append]
          simp only [List.filter_cons, hpx, if_pos, List.filter_nil, List.map_cons, List.map_nil]
          unfold kfill
          rw [List.foldl_append]; rfl
        refine ⟨ks, PyKey.key (f x).1, eu, e6, by rw [KReps.len r6]; exact Evl.sz_lt (by have := ln i; omega), hlt, W6.put D _ b6, rfl, ⟨md_mut (gi.trans G6).md b6 hD, i_put DS G6.i _⟩, ⟨b6, _, upd_same, ?_⟩⟩
        rw [ef]
        exact KReps.put r6 (f x).1 rw'
      | false =>
        rw [if_neg Bool.false_ne_true]
        have ef : kfill (((xs.take (i + 1)).filter p).map f) = kfill (((xs.take i).filter p).map f) := by
          rw [tkk, List.filter_append, List.map_append]
          simp only [List.filter_cons, hpx, List.filter_nil, List.map_nil, List.append_nil, if_neg Bool.false_ne_true]
        exact ⟨hlt, W4, rfl, (gi.trans g3).trans g4, by rw [ef]; exact dm.s (g3.trans g4) DS⟩
    · have e : i = xs.length := by omega
      subst e
      rw [List.take_length] at dm
      exact .inl ⟨src.stop _ Wi si (Nat.le_refl _), k D Wi (g2.trans gi) (by
        cases e : W1.H D with
        | none => rfl
        | some o => exact absurd hD (g2.md.d D (by rw [e]; exact fun z => by cases z))) dm⟩
theorem em_dcN {j : Nat} {xs : List α} {p : α → Bool} {f : α → κ × β} (hi : EvI ε K wi σ W xs) (ht : ∀ x v W', x ∈ xs → Stp ε W W' → rep K W'.B v x → EvT ε tt ((wipe σ [j]).set j (some v)) W' (p x))
    (hk : ∀ x v W', x ∈ xs → p x = true → Stp ε W W' → rep K W'.B v x → EvP ε tk ((wipe σ [j]).set j (some v)) W' (fun u _ => u = kV (PyKey.key (f x).1)))
    (he : ∀ x v W', x ∈ xs → p x = true → Stp ε W W' → rep K W'.B v x → EvR ε K tv ((wipe σ [j]).set j (some v)) W' (f x).2) (hl : xs.length < 100000) : EvM ε K (tDc wi (gName j) tt tk tv [j]) σ W (kfill ((xs.filter p).map f)) :=
  em_dc (P := PN K j) hi gt_name (fun x σ2 W' ⟨v, _, e⟩ => by rw [e]; exact wipe1) (fun x W' σ2 hm g ⟨v, r, e⟩ => by rw [e]; exact ht x v W' hm g r) (fun x W' σ2 hm hp g ⟨v, r, e⟩ => by rw [e]; exact hk x v W' hm hp g r)
    (fun x W' σ2 hm hp g ⟨v, r, e⟩ => by rw [e]; exact he x v W' hm hp g r) (fun x σ2 W' W'' ⟨v, r, e⟩ g => ⟨v, rep_s g r, e⟩) hl
end
section
variable {α γ β κ : Type} [Py α] [Py β] [Py γ] [DecidableEq κ] [PyKey κ] {K : Fg} {W : Wd} {σ : SS} {ε : Ef} {te tk tv : TE} {tt : TT} {wi : TI}
theorem em_dcP {i j : Nat} {xs : List (α × γ)} {p : α × γ → Bool} {f : α × γ → κ × β} (hi : EvI ε K wi σ W xs) (ht : ∀ x v u W', x ∈ xs → Stp ε W W' → rep K W'.B v x.1 → rep K W'.B u x.2 → EvT ε tt (((wipe σ [i, j]).set i (some v)).set j (some u)) W' (p x))
    (hk : ∀ x v u W', x ∈ xs → p x = true → Stp ε W W' → rep K W'.B v x.1 → rep K W'.B u x.2 → EvP ε tk (((wipe σ [i, j]).set i (some v)).set j (some u)) W' (fun u _ => u = kV (PyKey.key (f x).1)))
    (he : ∀ x v u W', x ∈ xs → p x = true → Stp ε W W' → rep K W'.B v x.1 → rep K W'.B u x.2 → EvR ε K tv (((wipe σ [i, j]).set i (some v)).set j (some u)) W' (f x).2) (hl : xs.length < 100000) : EvM ε K (tDc wi (gPair K i j) tt tk tv [i, j]) σ W (kfill ((xs.filter p).map f)) :=
  em_dc (P := PP K i j) hi gt_pair (fun x σ2 W' ⟨v, u, _, _, e⟩ => by rw [e]; exact wipe2) (fun x W' σ2 hm g ⟨v, u, r, r', e⟩ => by rw [e]; exact ht x v u W' hm g r r') (fun x W' σ2 hm hp g ⟨v, u, r, r', e⟩ => by rw [e]; exact hk x v u W' hm hp g r r')
    (fun x W' σ2 hm hp g ⟨v, u, r, r', e⟩ => by rw [e]; exact he x v u W' hm hp g r r') (fun x σ2 W' W'' ⟨v, u, r, r', e⟩ g => ⟨v, u, rep_s g r, rep_s g r', e⟩) hl
end
/-! ### a comprehension over a dict that is locked meanwhile -/
section
variable {κ α : Type} [DecidableEq κ] [PyKey κ] [Py α] {K : Fg} {W : Wd} {σ : SS} {t : TE}
/-- locked, and free again behind it -/
theorem em_lock {d : Addr} {ks : List (Key × V)} {kv : List (κ × α)} (hd : W.H d = some (.dK ks)) (h : ∀ WL, Lk W WL d ks → WL.B d = W.B d → EvM pur K t σ WL kv) : EvM pur K (tLockE t) σ W kv := fun W1 g1' Q k => by
  have g1 := g1'.pure
  have hd1 := g1.h _ _ hd
  have hnt : Nt W.H d := .k hd
  refine ⟨d, _, hd1, trivial, fun od => ?_⟩
  have sub : Ext W1.B (upd W1.H d (.frz od (.dK ks))) := B.Ext.trans W1.sub (B.Ext.lock hd1)
  let WL : Wd := ⟨W1.B, upd W1.H d (.frz od (.dK ks)), sub⟩
  have off : ∀ a, a ≠ d → WL.H a = W1.H a := fun a q => upd_ne q
  refine h WL ⟨g1.b, ⟨od, upd_same⟩, fun a o q e => (off a q).trans (g1.h a o e)⟩ (g1.m d hnt) WL (.start trivial) _ fun p W2 g2' f m => ?_
  have g2 := g2'.pure
  have h2 : W2.H d = some (.frz od (.dK ks)) := g2.h _ _ upd_same
  refine ⟨h2, ?_⟩
  have hB : W2.B d = W1.B d := g2.m d ⟨.frz od (.dK ks), upd_same, fun _ z => by cases z⟩
  have pd : p ≠ d := fun z => by
    have f' : upd W1.H d (.frz od (.dK ks)) p = none := f
    rw [z, upd_same] at f'; cases f'
  have sub3 : Ext W2.B (upd W2.H d (.dK ks)) := fun a o e => by
    by_cases q : a = d
    · subst q
      rw [hB] at e
      rcases W1.sub a o e with h1 | ⟨⟨k', rfl⟩, ob, h1⟩
      · rw [hd1] at h1; cases h1; exact .inl upd_same
      · rw [hd1] at h1; cases h1
    · rw [upd_ne q]; exact W2.sub a o e
  have gr : Grow W1 ⟨W2.B, upd W2.H d (.dK ks), sub3⟩ := .mk g2.b (fun a o e => by
    show upd W2.H d (.dK ks) a = some o
    by_cases q : a = d
    · subst q; rw [hd1] at e; cases e; exact upd_same
    · rw [upd_ne q]; exact g2.h a o ((off a q).trans e)) fun a ha => g2.m a (by
      by_cases q : a = d
      · rw [q]; exact ⟨_, upd_same, fun _ z => by cases z⟩
      · obtain ⟨u, e, hu⟩ := ha
        exact ⟨u, (off a q).trans e, hu⟩)
  obtain ⟨ks2, e2, r2⟩ := m.ex
  exact k p _ (.of gr) ((off p pd).symm.trans f) ⟨m.b, ks2, (upd_ne pd).trans e2, r2⟩
end
end B
/-! jars, plainly: what is in them and what they lost, by the program's own steps and by hand -/
namespace B
open PySem L2
abbrev Ins := List (Str × Int)
abbrev Lots := List (Int × Int)
section
variable {κ α : Type} [DecidableEq κ]
theorem keys_put_old {kv : List (κ × α)} {k : κ} {v : α} (h : k ∈ kv.map (·.1)) : (kput kv k v).map (·.1) = kv.map (·.1) := by
  unfold kput
  rw [if_pos (by obtain ⟨q, h1, h2⟩ := List.mem_map.mp h; exact List.any_eq_true.mpr ⟨q, h1, by simp [h2]⟩), List.map_map]
  refine List.map_congr_left fun q _ => ?_
  show (if q.1 = k then (q.1, v) else q).1 = q.1
  split <;> rfl
theorem kput_twice {kv : List (κ × α)} {k : κ} {v w : α} : kput (kput kv k v) k w = kput kv k w := by
  by_cases h : k ∈ kv.map (·.1)
  · have h' : k ∈ (kput kv k v).map (·.1) := by rw [keys_put_old h]; exact h
    have e : ∀ {l : List (κ × α)} {u : α}, k ∈ l.map (·.1) → kput l k u = l.map (fun q => if q.1 = k then (q.1, u) else q) := fun {l u} hl => by
      unfold kput
      rw [if_pos (by obtain ⟨q, h1, h2⟩ := List.mem_map.mp hl; exact List.any_eq_true.mpr ⟨q, h1, by simp [h2]⟩)]
    rw [e h', e h, e h, List.map_map]
    refine List.map_congr_left fun q _ => ?_
    show (if (if q.1 = k then (q.1, v) else q).1 = k then _ else _) = _
    by_cases z : q.1 = k <;> simp [z]
  · rw [kput_new h, kput_new h]
    have h' : k ∈ (kv ++ [(k, v)]).map (·.1) := by simp
    unfold kput
    rw [if_pos (by obtain ⟨q, h1, h2⟩ := List.mem_map.mp h'; exact List.any_eq_true.mpr ⟨q, h1, by simp [h2]⟩), List.map_append]
    have : kv.map (fun q => if q.1 = k then (q.1, w) else q) = kv := by
      conv => rhs; rw [← List.map_id kv]
      refine List.map_congr_left fun q hq => ?_
      have : ¬ q.1 = k := fun z => h (List.mem_map.mpr ⟨q, hq, z⟩)
      simp [this]
    rw [this]
    simp
theorem klook_put_same {kv : List (κ × α)} {k : κ} {v : α} : klook (kput kv k v) k = some v := by rw [klook_put]; simp
theorem mem_keys_put {kv : List (κ × α)} {k : κ} {v : α} : k ∈ (kput kv k v).map (·.1) := by
  cases e : klook (kput kv k v) k with
  | some x => exact List.mem_map.mpr ⟨_, klook_mem e, rfl⟩
  | none => rw [klook_put_same] at e; cases e
end
/-- m of each taken off -/
def off (ins : Ins) (m : Int) : Ins := (ins.filter fun q => decide (q.2 > m)).map fun q => (q.1, q.2 - m)
def addLot (lost : Lots) (size t : Int) : Lots := kput lost size ((klook lost size).getD 0 + t)
def Fits (n : Nat) (ins : Ins) (name : Str) : Prop := name ∈ ins.map (·.1) ∨ ins.length < n
instance (n : Nat) (ins : Ins) (name : Str) : Decidable (Fits n ins name) := inferInstanceAs (Decidable (_ ∨ _))
/-- one letter more, by hand -/
def one (n : Nat) (name : Str) (s : Ins × Lots) : Ins × Lots :=
  if Fits n s.1 name then (kput s.1 name ((klook s.1 name).getD 0 + 1), s.2) else (off s.1 1, addLot s.2 (n + 1) 1)
def least : Ins → Int
  | [] => 1
  | [q] => q.2
  | q :: r => min q.2 (least r)
theorem least_le : ∀ (ins : Ins) (q), q ∈ ins → least ins ≤ q.2
  | [q], p, h => by rw [List.mem_singleton.mp h]; exact Int.le_refl _
  | q :: r :: s, p, h => by
    show min q.2 (least (r :: s)) ≤ p.2
    rcases List.mem_cons.mp h with rfl | h
    · exact Int.min_le_left _ _
    · exact Int.le_trans (Int.min_le_right _ _) (least_le (r :: s) p h)
theorem least_mem : ∀ (ins : Ins), ins ≠ [] → ∃ q ∈ ins, q.2 = least ins
  | [], h => absurd rfl h
  | [q], _ => ⟨q, by simp, rfl⟩
  | q :: r :: s, _ => by
    obtain ⟨p, hp, e⟩ := least_mem (r :: s) (by simp)
    show ∃ z ∈ q :: r :: s, z.2 = min q.2 (least (r :: s))
    rcases Int.le_total q.2 (least (r :: s)) with h | h
    · exact ⟨q, by simp, (Int.min_eq_left h).symm⟩
    · exact ⟨p, List.mem_cons_of_mem _ hp, by rw [Int.min_eq_right h]; exact e⟩
structure InsOk (names : List Str) (n : Nat) (ins : Ins) : Prop where
  nd : (ins.map (·.1)).Nodup
  pos : ∀ q ∈ ins, 0 < q.2
  mem : ∀ q ∈ ins, q.1 ∈ names
  len : ins.length ≤ n
  n1 : 1 ≤ n
theorem InsOk.least_pos {names : List Str} {n : Nat} {ins : Ins} (h : InsOk names n ins) : 0 < least ins := by
  by_cases e : ins = []
  · rw [e]; decide
  · obtain ⟨q, hq, z⟩ := least_mem ins e
    rw [← z]; exact h.pos q hq
theorem off_len (ins : Ins) (m : Int) : (off ins m).length ≤ ins.length := by
  unfold off
  rw [List.length_map]; exact List.length_filter_le _ _
theorem off_keys (ins : Ins) (m : Int) : (off ins m).map (·.1) = (ins.filter fun q => decide (q.2 > m)).map (·.1) := by
  unfold off
  rw [List.map_map]; rfl
theorem off_ok {names : List Str} {n : Nat} {ins : Ins} (h : InsOk names n ins) (m : Int) : InsOk names n (off ins m) where
  nd := by rw [off_keys]; exact List.Nodup.sublist ((List.filter_sublist).map _) h.nd
  pos := fun q hq => by
    obtain ⟨p, hp, rfl⟩ := List.mem_map.mp hq
    have := of_decide_eq_true (List.mem_filter.mp hp).2
    show 0 < p.2 - m; omega
  mem := fun q hq => by
    obtain ⟨p, hp, rfl⟩ := List.mem_map.mp hq
    exact h.mem p (List.mem_filter.mp hp).1
  len := Nat.le_trans (off_len ins m) h.len
  n1 := h.n1
theorem put_ok {names : List Str} {n : Nat} {ins : Ins} {name : Str} {v : Int} (h : InsOk names n ins) (hn : name ∈ names) (hv : 0 < v) (hf : Fits n ins name) : InsOk names n (kput ins name v) where
  nd := kput_keys_nodup h.nd
  pos := fun q hq => by
    rcases kput_mem hq with z | rfl
    · exact h.pos q z
    · exact hv
  mem := fun q hq => by
    rcases kput_mem hq with z | rfl
    · exact h.mem q z
    · exact hn
  len := by
    rcases hf with z | z
    · have := congrArg List.length (keys_put_old (v := v) z)
      rw [List.length_map, List.length_map] at this
      rw [this]; exact h.len
    · have := kput_len ins name v
      omega
  n1 := h.n1
theorem look_pos {names : List Str} {n : Nat} {ins : Ins} {name : Str} (h : InsOk names n ins) : 0 ≤ (klook ins name).getD 0 := by
  cases e : klook ins name with
  | none => exact Int.le_refl _
  | some v => exact Int.le_of_lt (h.pos _ (klook_mem e))
theorem one_ok {names : List Str} {n : Nat} {name : Str} {s : Ins × Lots} (h : InsOk names n s.1) (hn : name ∈ names) : InsOk names n (one n name s).1 := by
  unfold one
  split
  · rename_i f
    have := look_pos (name := name) h
    exact put_ok h hn (by omega) f
  · exact off_ok h 1
theorem off_off (ins : Ins) {a b : Int} (hb : 0 ≤ b) : off (off ins a) b = off ins (a + b) := by
  unfold off
  rw [List.filter_map, List.map_map, List.filter_filter]
  have e : (ins.filter fun q => ((fun q : Str × Int => decide (q.2 > b)) ∘ fun q => (q.1, q.2 - a)) q && decide (q.2 > a)) = ins.filter fun q => decide (q.2 > a + b) := by
    refine List.filter_congr fun q _ => ?_
    show (decide (q.2 - a > b) && decide (q.2 > a)) = decide (q.2 > a + b)
    rw [← Bool.decide_and]
    exact decide_eq_decide.mpr ⟨fun h => by omega, fun h => by omega⟩
  rw [e]
  refine List.map_congr_left fun q _ => ?_
  show (q.1, q.2 - a - b) = (q.1, q.2 - (a + b))
  rw [Int.sub_sub]
theorem addLot_twice (lost : Lots) (size a b : Int) : addLot (addLot lost size a) size b = addLot lost size (a + b) := by
  unfold addLot
  rw [kput_twice, klook_put_same]
  show kput lost size (_ + a + b) = _
  rw [Int.add_assoc]
/-- j at once, or one by one: while all stay in -/
theorem one_many {names : List Str} {n : Nat} {name : Str} {ins : Ins} {lost : Lots} (h : InsOk names n ins) (hf : ¬ Fits n ins name) : ∀ j : Nat, 1 ≤ j → (j : Int) ≤ least ins → Nat.repeat (one n name) j (ins, lost) = (off ins j, addLot lost (n + 1) j)
  | 0, h0, _ => absurd h0 (by decide)
  | 1, _, _ => by
    show one n name (ins, lost) = _
    unfold one
    rw [if_neg hf]; rfl
  | j + 2, _, hl => by
    have ih := one_many (lost := lost) h hf (j + 1) (by omega) (by omega)
    show one n name (Nat.repeat (one n name) (j + 1) (ins, lost)) = _
    rw [ih]
    have all : (ins.filter fun q => decide (q.2 > ((j + 1 : Nat) : Int))) = ins := List.filter_eq_self.mpr fun q hq => by
      have := least_le ins q hq
      exact decide_eq_true (by omega)
    have hf' : ¬ Fits n (off ins ((j + 1 : Nat) : Int)) name := by
      intro z
      rcases z with z | z
      · rw [off_keys, all] at z; exact hf (.inl z)
      · unfold off at z
        rw [List.length_map, all] at z; exact hf (.inr z)
    unfold one
    rw [if_neg hf']
    show (off (off ins _) 1, addLot (addLot lost _ _) _ 1) = _
    rw [off_off ins (by decide), addLot_twice]
    congr 2
theorem repeat_add {α : Type} (f : α → α) : ∀ (a b : Nat) (x : α), Nat.repeat f (a + b) x = Nat.repeat f b (Nat.repeat f a x)
  | a, 0, x => rfl
  | a, b + 1, x => by
    show f (Nat.repeat f (a + b) x) = f (Nat.repeat f b (Nat.repeat f a x))
    rw [repeat_add f a b x]
/-- fitting, t at once -/
theorem one_fit {n : Nat} {name : Str} {ins : Ins} {lost : Lots} (hf : Fits n ins name) : ∀ t : Nat, 1 ≤ t → Nat.repeat (one n name) t (ins, lost) = (kput ins name ((klook ins name).getD 0 + t), lost)
  | 0, h => absurd h (by decide)
  | 1, _ => by
    show one n name (ins, lost) = _
    unfold one
    rw [if_pos hf]; rfl
  | t + 2, _ => by
    show one n name (Nat.repeat (one n name) (t + 1) (ins, lost)) = _
    rw [one_fit hf (t + 1) (by omega)]
    unfold one
    rw [if_pos (.inl mem_keys_put)]
    show (kput (kput ins name _) name _, lost) = _
    rw [kput_twice, klook_put_same]
    show (kput ins name ((klook ins name).getD 0 + ((t + 1 : Nat) : Int) + 1), lost) = _
    rw [show (klook ins name).getD 0 + ((t + 1 : Nat) : Int) + 1 = (klook ins name).getD 0 + ((t + 2 : Nat) : Int) by omega]
/-- what the program's loop does in a turn is so many by hand -/
theorem turn_fit {n : Nat} {name : Str} {ins : Ins} {lost : Lots} {left : Nat} (hf : Fits n ins name) (h : 1 ≤ left) : Nat.repeat (one n name) left (ins, lost) = (kput ins name ((klook ins name).getD 0 + left), lost) := one_fit hf left h
theorem turn_off {names : List Str} {n : Nat} {name : Str} {ins : Ins} {lost : Lots} {left m : Nat} (h : InsOk names n ins) (hf : ¬ Fits n ins name) (h1 : 1 ≤ m) (hm : (m : Int) ≤ least ins) (hl : m ≤ left) :
    Nat.repeat (one n name) left (ins, lost) = Nat.repeat (one n name) (left - m) (off ins m, addLot lost (n + 1) m) := by
  rw [← one_many h hf m h1 hm, ← repeat_add]
  congr 1
  omega
end B
/-! jars, plainly: in the order of keys; how great all is -/
namespace B
open PySem L2
open PySem.W (Datum)
section
variable {κ : Type} [DecidableEq κ]
/-- the pairs in the order of keys ks -/
def byKeys (kv : List (κ × Int)) (ks : List κ) : List (κ × Int) := ks.map fun k => (k, (klook kv k).getD 0)
theorem byKeys_keys (kv : List (κ × Int)) (ks : List κ) : (byKeys kv ks).map (·.1) = ks := by
  unfold byKeys
  rw [List.map_map]
  exact List.map_id ks
theorem byKeys_self {kv : List (κ × Int)} (n : (kv.map (·.1)).Nodup) : byKeys kv (kv.map (·.1)) = kv := by
  unfold byKeys
  rw [List.map_map]
  conv => rhs; rw [← List.map_id kv]
  refine List.map_congr_left fun q hq => ?_
  show (q.1, (klook kv q.1).getD 0) = q
  rw [klook_of_mem (v := q.2) n hq]; rfl
theorem byKeys_perm {kv : List (κ × Int)} {ks : List κ} (n : (kv.map (·.1)).Nodup) (h : ks.Perm (kv.map (·.1))) : (byKeys kv ks).Perm kv := by
  have := h.map fun k => (k, (klook kv k).getD 0)
  rw [show (kv.map (·.1)).map (fun k => (k, (klook kv k).getD 0)) = kv from byKeys_self n] at this
  exact this
theorem mem_key_eq {kv : List (κ × Int)} (n : (kv.map (·.1)).Nodup) {a b : κ × Int} (ha : a ∈ kv) (hb : b ∈ kv) (e : a.1 = b.1) : a = b := by
  have h1 := klook_of_mem (v := a.2) n ha
  have h2 := klook_of_mem (v := b.2) n hb
  rw [e, h2] at h1
  exact Prod.ext e (Option.some.inj h1).symm
/-- two lists of the same pairs, with unlike keys, both in the order of the keys -/
theorem pairs_uniq {le : κ → κ → Bool} (anti : ∀ a b, le a b = true → le b a = true → a = b) {kv xs ys : List (κ × Int)} (n : (kv.map (·.1)).Nodup) (h1 : xs.Perm kv) (h2 : ys.Perm kv) (o1 : xs.Pairwise fun a b => le a.1 b.1 = true) (o2 : ys.Pairwise fun a b => le a.1 b.1 = true) : xs = ys :=
  (h1.trans h2.symm).eq_of_pairwise (fun a b ha hb h h' => mem_key_eq n (h1.mem_iff.mp ha) (h2.mem_iff.mp hb) (anti _ _ h h')) o1 o2
end
def srt (kv : Ins) : Ins := byKeys kv (sortS (kv.map (·.1)))
theorem srt_perm {kv : Ins} (n : (kv.map (·.1)).Nodup) : (srt kv).Perm kv := byKeys_perm n (sortS_perm _)
theorem srt_pw (kv : Ins) : (srt kv).Pairwise fun a b => sle a.1 b.1 = true := by
  have := sortS_pw (kv.map (·.1))
  unfold srt byKeys
  rw [List.pairwise_map]
  exact this
theorem srt_uniq {kv ys : Ins} (n : (kv.map (·.1)).Nodup) (h : ys.Perm kv) (o : ys.Pairwise fun a b => sle a.1 b.1 = true) : ys = srt kv := pairs_uniq (fun _ _ => sle_anti) n h (srt_perm n) o (srt_pw kv)
def sortI (xs : List Int) : List Int := xs.mergeSort fun a b => decide (a ≤ b)
theorem sortI_perm (xs : List Int) : (sortI xs).Perm xs := List.mergeSort_perm _ _
theorem sortI_pw (xs : List Int) : (sortI xs).Pairwise (· ≤ ·) := by
  have := List.pairwise_mergeSort (le := fun a b : Int => decide (a ≤ b)) (fun a b c h h' => by simp only [decide_eq_true_eq] at *; omega) (fun a b => by simp only [Bool.or_eq_true, decide_eq_true_eq]; omega) xs
  exact this.imp fun h => of_decide_eq_true h
def srtI (kv : Lots) : Lots := byKeys kv (sortI (kv.map (·.1)))
theorem srtI_perm {kv : Lots} (n : (kv.map (·.1)).Nodup) : (srtI kv).Perm kv := byKeys_perm n (sortI_perm _)
theorem srtI_pw (kv : Lots) : (srtI kv).Pairwise fun a b => a.1 ≤ b.1 := by
  have := sortI_pw (kv.map (·.1))
  unfold srtI byKeys
  rw [List.pairwise_map]
  exact this
theorem srtI_uniq {kv ys : Lots} (n : (kv.map (·.1)).Nodup) (h : ys.Perm kv) (o : ys.Pairwise fun a b => a.1 ≤ b.1) : ys = srtI kv :=
  pairs_uniq (le := fun a b => decide (a ≤ b)) (fun a b h h' => by simp only [decide_eq_true_eq] at *; omega) n h (srtI_perm n) (o.imp fun h => decide_eq_true h) ((srtI_pw kv).imp fun h => decide_eq_true h)
/-- what was lost: sizes above n, nine at most, each once -/
structure LotsOk (n : Nat) (lost : Lots) : Prop where
  nd : (lost.map (·.1)).Nodup
  ok : ∀ q ∈ lost, (n : Int) < q.1 ∧ q.1 ≤ 9 ∧ 0 < q.2
theorem LotsOk.len {n : Nat} {lost : Lots} (h : LotsOk n lost) : lost.length ≤ 10 := by
  have := nodup_le (l := lost.map (·.1)) (m := rng 0 10) h.nd fun x hx => by
    obtain ⟨q, hq, rfl⟩ := List.mem_map.mp hx
    have := h.ok q hq
    exact rng_mem.mpr ⟨by omega, by omega⟩
  rw [List.length_map, rng_len] at this
  exact this
theorem lot_ok {n : Nat} {lost : Lots} {t : Int} (h : LotsOk n lost) (hn : n ≤ 8) (ht : 0 < t) : LotsOk n (addLot lost (n + 1) t) := by
  have h0 : 0 ≤ (klook lost ((n : Int) + 1)).getD 0 := by
    cases e : klook lost ((n : Int) + 1) with
    | none => exact Int.le_refl _
    | some v => exact Int.le_of_lt (h.ok _ (klook_mem e)).2.2
  refine ⟨kput_keys_nodup h.nd, fun q hq => ?_⟩
  rcases kput_mem hq with z | rfl
  · exact h.ok q z
  · exact ⟨by show (n : Int) < n + 1; omega, by show (n : Int) + 1 ≤ 9; omega, by show 0 < _ + t; omega⟩
theorem one_lots {n : Nat} {name : Str} {s : Ins × Lots} (h : LotsOk n s.2) (hn : n ≤ 8) : LotsOk n (one n name s).2 := by
  unfold one
  split
  · exact h
  · exact lot_ok h hn (by decide)
/-- nothing is above b -/
structure Small (b : Int) (s : Ins × Lots) : Prop where
  i : ∀ q ∈ s.1, q.2 ≤ b
  l : ∀ q ∈ s.2, q.2 ≤ b
theorem one_small {n : Nat} {name : Str} {b : Int} {s : Ins × Lots} (h : Small b s) (hb : 0 ≤ b) : Small (b + 1) (one n name s) := by
  unfold one
  split
  · refine ⟨fun q hq => ?_, fun q hq => Int.le_trans (h.l q hq) (by omega)⟩
    rcases kput_mem hq with z | rfl
    · exact Int.le_trans (h.i q z) (by omega)
    · show _ + 1 ≤ b + 1
      cases e : klook s.1 name with
      | none => show (0 : Int) + 1 ≤ b + 1; omega
      | some v => have := h.i _ (klook_mem e); show v + 1 ≤ b + 1; have : v ≤ b := this; omega
  · refine ⟨fun q hq => ?_, fun q hq => ?_⟩
    · obtain ⟨p, hp, rfl⟩ := List.mem_map.mp hq
      have := h.i p (List.mem_filter.mp hp).1
      show p.2 - 1 ≤ b + 1; omega
    · rcases kput_mem hq with z | rfl
      · exact Int.le_trans (h.l q z) (by omega)
      · show _ + 1 ≤ b + 1
        cases e : klook s.2 ((n : Int) + 1) with
        | none => show (0 : Int) + 1 ≤ b + 1; omega
        | some v => have := h.l _ (klook_mem e); show v + 1 ≤ b + 1; have : v ≤ b := this; omega
/-- all that is kept of jars -/
structure JOk (names : List Str) (n : Nat) (b : Int) (s : Ins × Lots) : Prop where
  i : InsOk names n s.1
  l : LotsOk n s.2
  s : Small b s
  n8 : n ≤ 8
  b0 : 0 ≤ b
theorem one_jok {names : List Str} {n : Nat} {b : Int} {name : Str} {s : Ins × Lots} (h : JOk names n b s) (hn : name ∈ names) : JOk names n (b + 1) (one n name s) :=
  ⟨one_ok h.i hn, one_lots h.l h.n8, one_small h.s h.b0, h.n8, by have := h.b0; omega⟩
theorem many_jok {names : List Str} {n : Nat} {b : Int} {name : Str} {s : Ins × Lots} (h : JOk names n b s) (hn : name ∈ names) : ∀ t : Nat, JOk names n (b + t) (Nat.repeat (one n name) t s)
  | 0 => by rw [show b + ((0 : Nat) : Int) = b by omega]; exact h
  | t + 1 => by
    have := one_jok (many_jok h hn t) hn
    rw [show b + (t : Int) + 1 = b + ((t + 1 : Nat) : Int) by omega] at this
    exact this
theorem JOk.up {names : List Str} {n : Nat} {b c : Int} {s : Ins × Lots} (h : JOk names n b s) (hc : b ≤ c) : JOk names n c s := ⟨h.i, h.l, ⟨fun q hq => Int.le_trans (h.s.i q hq) hc, fun q hq => Int.le_trans (h.s.l q hq) hc⟩, h.n8, by have := h.b0; omega⟩
theorem fresh_jok (names : List Str) {n : Nat} (h1 : 1 ≤ n) (h8 : n ≤ 8) : JOk names n 0 ([], []) :=
  ⟨⟨.nil, fun _ h => by simp at h, fun _ h => by simp at h, Nat.zero_le _, h1⟩, ⟨.nil, fun _ h => by simp at h⟩, ⟨fun _ h => by simp at h, fun _ h => by simp at h⟩, h8, Int.le_refl _⟩
/-- sums of what is small -/
theorem sum_small : ∀ (xs : List Int) (b : Int), (∀ x ∈ xs, 0 ≤ x ∧ x ≤ b) → 0 ≤ xs.sum ∧ xs.sum ≤ xs.length * b
  | [], b, _ => by simp
  | x :: xs, b, h => by
    have h1 := h x List.mem_cons_self
    have h2 := sum_small xs b fun y hy => h y (List.mem_cons_of_mem _ hy)
    rw [List.sum_cons, List.length_cons]
    refine ⟨by omega, ?_⟩
    have : ((xs.length + 1 : Nat) : Int) * b = xs.length * b + b := by
      rw [Int.natCast_add, Int.add_mul]; simp
    omega
theorem log_small {i : Int} (h0 : 0 ≤ i) (h : i ≤ 1000000000000) : i.natAbs.log2 < 1920 := by
  have : i.natAbs < 2 ^ 50 := by omega
  by_cases z : i.natAbs = 0
  · rw [z]; decide
  · have := (Nat.log2_lt z).mpr this
    omega
end B
/-! B: repr of a list that holds dicts -/
namespace B
open PySem PySem.Spec PyProof.Rows L2
open PySem.W (Tup T3 T4 Datum DatumOrd)
def keyD : Key → PyData
  | .inl i => .int i
  | .inr x => .str x
/-- data; a dict of numbers, by the heap -/
inductive DpD (K : Fg) (H : Hp) : V → PyData → Prop
  | pl {v : V} {d : PyData} : Dp K H v d → d.hasDict = false → DpD K H v d
  | dc {a : Addr} {kv : List (Key × Int)} : Rd H a (.dK (kv.map fun q => (q.1, V.int q.2))) → DpD K H (.ref a) (.dict (kv.map fun q => (keyD q.1, PyData.int q.2)))
inductive DpDs (K : Fg) (H : Hp) : List V → List PyData → Prop
  | nil : DpDs K H [] []
  | cons {v : V} {d : PyData} {vs : List V} {ds : List PyData} : DpD K H v d → DpDs K H vs ds → DpDs K H (v :: vs) (d :: ds)
section
variable {X : Cx} {pins : List (Addr × Obj)} {σ : L2.St} {H : Hp} {s : Shared}
theorem flat_keys {P : Program} {w : World} {h : Heap} {es : List DictEntry} : ∀ {kv : List (Key × Int)} {vs : List (Key × Value)}, KV (kv.map fun q => (q.1, V.int q.2)) vs → Pairs (mixKind P w) es vs → ReadsAll h (es.map (·.key)) ((kv.map fun q => (keyD q.1, PyData.int q.2)).map (·.1)) [] ∧ ReadsAll h (es.map (·.val)) ((kv.map fun q => (keyD q.1, PyData.int q.2)).map (·.2)) [] := by
  intro kv vs hv hp
  induction hp generalizing kv with
  | nil =>
    cases kv with
    | nil => exact ⟨.nil, .nil⟩
    | cons q kv => cases hv
  | @cons e p es vs hk he _ ih =>
    cases kv with
    | nil => cases hv
    | cons q kv =>
      cases hv with
      | cons h1 h2 =>
        obtain ⟨i1, i2⟩ := ih h2
        obtain ⟨e1, e2⟩ := h1
        have e1 : q.1 = p.1 := e1
        obtain ⟨t, e2⟩ : ∃ t, p.2 = .int q.2 t := e2
        have kd : Reads h e.key (keyD q.1) [] := by
          rw [← e1] at hk
          have hk : keyIs q.1 e.key = true := hk
          rcases keyIs_shape hk with ⟨i, u, e3, e4⟩ | ⟨x, u, e3, e4⟩
          · rw [e3, e4]; exact .int i u
          · rw [e3, e4]; exact .str x u
        have vd : Reads h e.val (PyData.int q.2) [] := by rw [he, e2]; exact .int _ _
        exact ⟨.cons (as := []) (bs := []) kd i1, .cons (as := []) (bs := []) vd i2⟩
theorem DpD.reads (I : Inv X pins σ H s) {v : V} {u : Value} {d : PyData} (h : DpD X.K H v d) (r : RelV v u) : ∃ as, Reads s.heap u d as ∧ (d.hasDict = true → sysModules ∉ as) := by
  cases h with
  | pl hd hn =>
    obtain ⟨as, rd⟩ := Dp.reads I _ _ _ hd r
    exact ⟨as, rd, fun z => by rw [hn] at z; cases z⟩
  | @dc a kv e =>
    obtain rfl : u = Value.ref _ := r
    obtain ⟨_, hsys, vs, kvr, o, es, ep, ho, ex, hd, _, pr, _⟩ := dk_rd I.hok e
    obtain ⟨k1, k2⟩ := flat_keys (h := s.heap) kvr pr
    refine ⟨_, Reads.dict ho ex.1 hd k1 k2, fun _ hm => ?_⟩
    have : sysModules = a := by simpa using hm
    rw [← this] at hsys
    simp at hsys
theorem DpD.repr (I : Inv X pins σ H s) {v : V} {u : Value} {d : PyData} (h : DpD X.K H v d) (r : RelV v u) (hs : d.showable = true) (hz : d.shown.length ≤ sizeLine) : ∃ as, Reads s.heap u d as ∧ ∃ bs, ReadAtMost s.heap d.depth bs ∧ ReprK X.prog X.w bs s.heap d.depth u d.shown := by
  obtain ⟨as, rd, hn⟩ := h.reads I r
  exact ⟨as, rd, ReprK.of_reads rd hs hn hz⟩
theorem DpDs.repr (I : Inv X pins σ H s) : ∀ {vs : List V} {us : List Value} {ds : List PyData}, DpDs X.K H vs ds → Vals vs us → PyData.showableAll ds = true → (∀ t ∈ PyData.shownAll ds, t.length ≤ sizeLine) →
    (∃ as, ReadsAll s.heap us ds as) ∧ ∃ bs, ReadAtMost s.heap (PyData.depthAll ds) bs ∧ ReprAllK X.prog X.w bs s.heap (PyData.depthAll ds) us (PyData.shownAll ds)
  | _, _, _, .nil, .nil, _, _ => ⟨⟨_, .nil⟩, [], (fun _ h => nomatch h), by simp only [PyData.shownAll]; exact .nil⟩
  | _, _, _, .cons (d := d) (ds := ds) h hs', .cons r rs, hs, hz => by
    have hs2 : d.showable = true ∧ PyData.showableAll ds = true := by simpa [PyData.showableAll] using hs
    obtain ⟨as, rd, b1, hb1, k1⟩ := h.repr I r hs2.1 (hz _ (by simp only [PyData.shownAll]; exact List.mem_cons_self ..))
    obtain ⟨⟨as2, rds⟩, b2, hb2, k2⟩ := DpDs.repr I hs' rs hs2.2 fun t ht => hz t (by simp only [PyData.shownAll]; exact List.mem_cons_of_mem _ ht)
    refine ⟨⟨_, .cons rd rds⟩, b1 ++ b2, fun b hm => ?_, ?_⟩
    · simp only [PyData.depthAll]
      rcases List.mem_append.mp hm with hm | hm
      · obtain ⟨d', as', r', hd'⟩ := hb1 b hm
        exact ⟨d', as', r', Nat.le_trans hd' (Nat.le_max_left _ _)⟩
      · obtain ⟨d', as', r', hd'⟩ := hb2 b hm
        exact ⟨d', as', r', Nat.le_trans hd' (Nat.le_max_right _ _)⟩
    · simp only [PyData.depthAll, PyData.shownAll]
      exact .cons ((k1.more fun b hb => List.mem_append_left _ hb).level_le (Nat.le_max_left _ _)) (k2.more_le (fun b hb => List.mem_append_right _ hb) (Nat.le_max_right _ _))
end
section
variable {prog : Program} {w : World} {A : Around} {E : Value → Shared → Prop} {s : Shared}
theorem repr_listD {a : Addr} {o : Obj} {vs : List Value} {n : _} {d : List PyData} {az bs : List Addr} {Q : Value → Shared → Prop} (h1 : s.heap.get? a = some o) (h2 : o.cls = .type "list") (h3 : o.data = .seq vs.toArray n) (r : ReadsAll s.heap vs d az) (hb : ReadAtMost s.heap (PyData.depthAll d) bs) (hk : ReprAllK prog w bs s.heap (PyData.depthAll d) vs (PyData.shownAll d))
    (hg : A.guards = some []) (hu : A.units + 60 < cLine) (h40 : PyData.depthAll d ≤ 40) (hz : (listText (PyData.shownAll d)).length ≤ sizeLine)
    (hQ : ∀ h' u tk, (∀ b o, s.heap.get? b = some o → h'.get? b = some o) → Q (.str (listText (PyData.shownAll d)) u) { s with heap := h', toks := tk }) : wpAny (model prog w) A (call (.builtin "repr") [.ref a]) Q E s := by
  have r0 : Reads s.heap (.ref a) (.list d) (a :: az) := .list h1 h2 h3 (by simpa using r)
  have hna : a ∉ bs := not_mem_of_deeper r0 (by simp only [PyData.depth]; omega) hb
  have hTy : s.TypeIs (.ref a) "list" := ⟨o, h1, h2⟩
  refine Calls.call_function_entry F.kind_repr F.plain_repr F.entry_repr (F.args_repr1 _) ?_
  unfold Builtin.«repr»
  refine wpAny_bind (m := oneArg "repr" _) (wpAny_pure ?_)
  refine wpAny_bind (wpAny_cRoomFor (by show A.units + 1 < _; omega) ?_)
  refine wpAny_bind (wpAny_specialOf (name := Str.ofString "__repr__") hTy F.slot_list_repr.lookup ?_)
  have fin : ∀ h' u tk, (∀ b o, s.heap.get? b = some o → h'.get? b = some o) → wpAny (model prog w) A.in1 (isInstance (.str (listText (PyData.shownAll d)) u) (.type "str") >>= fun b => if b = true then ret (.str (listText (PyData.shownAll d)) u) else rule "repr.not-str" >>= fun _ => typeNameOf (.str (listText (PyData.shownAll d)) u) >>= fun nm => raiseError "TypeError" s!"__repr__ returned non-string (type {nm})")
      (fun fin s' => ∃ v, fin = .done (.ret v) ∧ Q v s') E { s with heap := h', toks := tk } := fun h' u tk hk =>
    wpAny_bind (wpAny_isInstance (T := "str") (b := true) rfl isSubtype_str_str (wpAny_pure ⟨_, rfl, hQ h' u tk hk⟩))
  refine wpAny_bind (m := callSpecialIfBound? (.ref a) (Str.ofString "__repr__")) (wpAny_callSpecialIfBound?_slot (name := Str.ofString "__repr__") hTy F.slot_list_repr ?_)
  cases vs with
  | nil =>
    cases r
    exact call_list_repr_empty hTy h1 h3 (fin s.heap _ _ fun _ _ e => e)
  | cons x l =>
    exact call_list_reprK h1 h2 h3 hna (by simpa using hk.length_eq) (fun i y e => hk.item i y (by simpa using e)) (show A.in1.guards = some [] from hg) (fun b _ => Clear.nil b) (by show A.units + 1 + _ < _; omega) (fun _ _ e => e) (fun h' u tk hk' => fin h' u tk hk') hz
end
def rReprD (K : Fg) : List V → Hp → VK → Prop := fun vs H Q => ∃ (a : Addr) (xs : List V) (d : List PyData), vs = [.ref a] ∧ SqL K H a xs ∧ DpDs K H xs d ∧ PyData.showableAll d = true ∧ PyData.depthAll d ≤ 40 ∧ (listText (PyData.shownAll d)).length ≤ sizeLine ∧ Q (.str (listText (PyData.shownAll d))) H
theorem cr_reprD {X : Cx} (hg : X.A.guards = some []) (hu : X.A.units + 64 < cLine) : CallR X (.builtin "repr") (rReprD X.K) := by
  intro pins s σ H xs us Q I r h
  obtain ⟨a, ys, d, rfl, hl, hd, h1, h3, h4, q⟩ := h
  obtain ⟨u, rfl, ru⟩ := vals1 r
  obtain rfl : u = Value.ref a := ru
  obtain ⟨its, rv, ⟨o, n, ho, hc, _, hdat⟩, _⟩ := I.list hl
  obtain ⟨⟨az, ra⟩, bs, hb, hk⟩ := hd.repr I rv h1 fun t ht => Nat.le_trans (listText_mem_le ht) h4
  exact repr_listD ho hc hdat ra hb hk hg (by omega) h3 h4 fun h' u tk hk => ⟨.str _, H, I.kept hk, ⟨_, rfl⟩, q⟩
mutual
theorem dp_ext {K : Fg} {H H' : Hp} (e : Ext H H') : ∀ (d : PyData) (v : V), Dp K H v d → Dp K H' v d
  | .none, _, h => by cases h; exact .non
  | .bool b, _, h => by cases h; exact .bl b
  | .int i, _, h => by cases h; exact .int i
  | .str x, _, h => by cases h; exact .str x
  | .list ds, _, h => by
    cases h with
    | lst hs ha => exact .lst (e.l hs) (dps_ext e ds _ ha)
  | .tuple ds, _, h => by
    cases h with
    | tup hs ha => exact .tup (e.t hs) (dps_ext e ds _ ha)
  | .dict _, _, h => by cases h
theorem dps_ext {K : Fg} {H H' : Hp} (e : Ext H H') : ∀ (ds : List PyData) (vs : List V), DpAll K H vs ds → DpAll K H' vs ds
  | [], _, h => by cases h; exact .nil
  | d :: ds, _, h => by
    cases h with
    | cons h1 h2 => exact .cons (dp_ext e d _ h1) (dps_ext e ds _ h2)
end
def rReprV (K : Fg) : List V → Hp → VK → Prop := fun vs H Q => ∃ (v : V) (d : PyData), vs = [v] ∧ DpD K H v d ∧ d.showable = true ∧ d.depth ≤ 40 ∧ d.shown.length ≤ sizeLine ∧ Q (.str d.shown) H
theorem cr_reprV {X : Cx} (hg : X.A.guards = some []) (hu : X.A.units + 64 < cLine) : CallR X (.builtin "repr") (rReprV X.K) := by
  intro pins s σ H xs us Q I r h
  obtain ⟨v, d, rfl, hd, h1, h3, h4, q⟩ := h
  obtain ⟨u, rfl, ru⟩ := vals1 r
  obtain ⟨as, rd, hn⟩ := hd.reads I ru
  have fin : ∀ tk u, EP X pins σ Q (.str d.shown u) { s with toks := tk } := fun tk u => ⟨.str _, H, I.kept (t' := tk) fun _ _ z => z, ⟨_, rfl⟩, q⟩
  cases rd with
  | none => exact P.repr_of_none (fin _ _)
  | bool b => exact P.repr_of_bool (fin _ _)
  | int i t => exact P.repr_of_int (by simpa [PyData.showable] using h1) (fin _ _)
  | str x t => exact P.repr_of_str (fin _ _) h4
  | list a1 a2 a3 a4 => exact repr_of_reads' (.list a1 a2 a3 a4) h1 hn hg (by omega) (fun _ _ e => e) (fun h' u tk hk => ⟨.str _, H, I.kept hk, ⟨_, rfl⟩, q⟩) h4
  | tuple a1 a2 a3 a4 => exact repr_of_reads' (.tuple a1 a2 a3 a4) h1 hn hg (by omega) (fun _ _ e => e) (fun h' u tk hk => ⟨.str _, H, I.kept hk, ⟨_, rfl⟩, q⟩) h4
  | dict a1 a2 a3 a4 a5 => exact repr_of_reads' (.dict a1 a2 a3 a4 a5) h1 hn hg (by omega) (fun _ _ e => e) (fun h' u tk hk => ⟨.str _, H, I.kept hk, ⟨_, rfl⟩, q⟩) h4
/-- data of which some are new dicts -/
inductive DpW (K : Fg) (W : Wd) : V → PyData → Prop
  | pl {v : V} {d : PyData} : Dp K W.B v d → d.hasDict = false → DpW K W v d
  | st {c : Addr} {kv : List (Str × Int)} : DMut K W c kv → DpW K W (.ref c) (.dict (kv.map fun q => (PyData.str q.1, PyData.int q.2)))
  | it {c : Addr} {kv : List (Int × Int)} : DMut K W c kv → DpW K W (.ref c) (.dict (kv.map fun q => (PyData.int q.1, PyData.int q.2)))
section
variable {K : Fg} {W W' : Wd} {σ : SS} {te : TE} {ta : TA}
theorem kreps_flat {κ : Type} [DecidableEq κ] [PyKey κ] {B : Hp} : ∀ {ks : List (Key × V)} {kv : List (κ × Int)}, KReps K B ks kv → ks = kv.map fun q => (PyKey.key q.1, V.int q.2)
  | [], [], .nil => rfl
  | p :: ks, q :: kv, .cons h r => by
    obtain ⟨e1, e2⟩ := h
    have e2 : p.2 = V.int q.2 := e2
    rw [List.map_cons, ← kreps_flat r, ← e1, ← e2]
theorem DpW.gr {v : V} {d : PyData} (h : DpW K W v d) (g : Grow W W') : DpW K W' v d := by
  cases h with
  | pl h n => exact .pl (dp_ext (exExt g.b) _ _ h) n
  | st m => exact .st (m.gr g)
  | it m => exact .it (m.gr g)
theorem DpW.d {v : V} {d : PyData} (h : DpW K W v d) : DpD K W.H v d := by
  cases h with
  | pl h n => exact .pl (dp_ext W.sub _ _ h) n
  | @st c kv m =>
    obtain ⟨ks, e, r⟩ := m.ex
    rw [kreps_flat r] at e
    have := DpD.dc (K := K) (H := W.H) (a := c) (kv := kv.map fun q => ((Sum.inr q.1 : Key), q.2)) (.inl (by rw [e, List.map_map]; rfl))
    rw [List.map_map] at this
    exact this
  | @it c kv m =>
    obtain ⟨ks, e, r⟩ := m.ex
    rw [kreps_flat r] at e
    have := DpD.dc (K := K) (H := W.H) (a := c) (kv := kv.map fun q => ((Sum.inl q.1 : Key), q.2)) (.inl (by rw [e, List.map_map]; rfl))
    rw [List.map_map] at this
    exact this
/-- a row of such data is made -/
def EvDs (K : Fg) (ta : TA) (σ : SS) (W : Wd) (ds : List PyData) : Prop := ∀ W1, Stp pur W W1 → ∀ Q : List V → Hp → Prop, (∀ us W2, Stp pur W1 W2 → (∀ W3, Grow W2 W3 → DpDs K W3.H us ds) → us.length = ds.length → Q us W2.H) → ta σ W1.H Q
theorem eds_nil : EvDs K tNil σ W [] := fun W1 g1 Q k => k [] W1 g1.rf (fun _ _ => .nil) rfl
theorem eds_cons {d : PyData} {ds : List PyData} (h : EvP pur te σ W (fun v W' => DpW K W' v d)) (hr : EvDs K ta σ W ds) : EvDs K (tCons te ta) σ W (d :: ds) := fun W1 g1 Q k =>
  h W1 g1 _ fun v W2 g2 p => hr W2 (g1.trans g2) _ fun us W3 g3 ps l => k (v :: us) W3 (g2.trans g3) (fun W4 g4 => .cons (p.gr (g3.pure.trans g4)).d (ps W4 g4)) (by rw [List.length_cons, l, List.length_cons])
theorem ed_pl {α : Type} [DecidableEq α] [Datum α] [Py α] [PyD α] {x : α} (h : EvR pur K te σ W x) (hn : (Datum.toD x).hasDict = false) : EvP pur te σ W (fun v W' => DpW K W' v (Datum.toD x)) := fun W1 g1 Q k => h W1 g1 Q fun v W2 g2 r => k v W2 g2 (.pl (PyD.dp r) hn)
theorem ed_st {kv : List (Str × Int)} (h : EvM pur K te σ W kv) : EvP pur te σ W (fun v W' => DpW K W' v (.dict (kv.map fun q => (PyData.str q.1, PyData.int q.2)))) := fun W1 g1 Q k => h W1 g1 Q fun p W2 g2 _ m => k _ W2 g2 (.st m)
theorem ed_it {kv : List (Int × Int)} (h : EvM pur K te σ W kv) : EvP pur te σ W (fun v W' => DpW K W' v (.dict (kv.map fun q => (PyData.int q.1, PyData.int q.2)))) := fun W1 g1 Q k => h W1 g1 Q fun p W2 g2 _ m => k _ W2 g2 (.it m)
/-- repr([..]), dicts in it -/
theorem ev_reprD {ds : List PyData} (h : EvDs K ta σ W ds) (hs : PyData.showableAll ds = true) (hd : PyData.depthAll ds ≤ 40) (hl : (listText (PyData.shownAll ds)).length ≤ 100000) (hn : ds.length ≤ 100000) : EvR pur K (tCB (rReprD K) (tCons (tLst ta) tNil)) σ W (listText (PyData.shownAll ds)) := fun W1 g1 Q k => h W1 g1 _ fun us W2 g2 ps l =>
  ⟨by rw [l]; exact Evl.sz_of hn, fun p hp => by
    let W3 := W2.add p (.lst us)
    have g3 : Grow W2 W3 := W2.grow_add hp
    exact ⟨p, us, ds, rfl, SqL.of upd_same, ps W3 g3, hs, hd, Evl.sz_of hl, k _ W3 (g2.trans (.of g3)) rfl⟩⟩
end
end B
/-! B: classes of refusals, told by the top's names -/
namespace B
open PySem PySem.Spec PyProof.Rows L2
def cErr (K : Fg) (x : Str) : Addr := match PySem.W.nsIn K mainGlobals x with
  | some (some (.ref C)) => C
  | _ => 0
theorem cErr_of {K : Fg} {x : Str} {C : Addr} (h : PySem.W.nsIn K mainGlobals x = some (some (.ref C))) : cErr K x = C := by
  unfold cErr
  rw [h]
/-- str(n) -/
abbrev rStrI : List V → Hp → VK → Prop := fun xs H Q => ∃ i : Int, xs = [.int i] ∧ i.natAbs.log2 < 1920 ∧ Q (.str (toString i)) H
/-- a call in a def that lets out what it gets -/
theorem passE {X : Cx} {E : XK} (hs : X.stack = X.env :: X.outer) (hf : X.env.frame = some X.env.locals) (hex : X.ex = []) {E₁ : Value → Shared → Prop}
    (hx : X.xe = fun e s' => wpAny (model X.prog X.w) X.A (leaving X.env e) (fun _ s'' => L2.CX X.prog X.w X.outer X.H_0 X.s_0 E e s'') E₁ s') : Passes (L2.CX X.prog X.w) X E :=
  passes_call (takes_of hs hf hex hx) fun _ _ _ _ h => h
end B
/-! BE: errors with fields of their own: made, caught, kept, asked -/
namespace BE
open PySem PySem.Spec PySem.Calls PyProof.Rows
section
open PySem.W
variable {prog : Program} {w : World} {A : Around} {E : Value → Shared → Prop} {s : Shared} {K : Frag} {x D : Addr} {ox : Obj} {od : Option Obj}
theorem find_dataO {C : Addr} {name : Str} {a g : Value} (hc : (clsIn K C).isSome = true) (ha : findIn K (.ref C) name = some (some a)) (hg : specialIn K a "__get__" = some (some g)) (ht : takesIn K a = some true) : findObj K C od name = some (.bind g a) := by
  cases od with
  | none => exact findObj_dataN hc ha hg ht
  | some o => exact findObj_data hc ha hg ht
theorem classE_at {Q : Option Value → Shared → Prop} (C : L2.ExcC K D) (X : K.In s.heap) (I : InstAt s.heap x ox D od) (h : Q (some (.ref D)) { s with toks := s.toks + 1 }) : wpAny (model prog w) A (getAttr? (.ref x) "__class__") Q E s := by
  have hf : findObj K D od "__class__" = some (.bind (.builtin "getset_descriptor.__get__") (.builtin "object.__class__")) := find_dataO (by obtain ⟨cd, hc, _⟩ := any_some C.hd; rw [hc]; rfl) C.ha C.hn C.ht
  obtain ⟨hp, g, d, t, os⟩ := s
  have k0 := I.type (M := model prog w)
  have k1 := looks_findIn (M := model prog w) X C.hg
  have k2 := looks_findIn (M := model prog w) X C.hk
  have k3 := looks_find (M := model prog w) X I hf
  have sb : Looks (model prog w) hp (isInstance (.ref x) (.type "BaseException")) true := k0.andThen (looks_subIn X C.hs)
  have n0 : (false && onTheHeap (Value.builtin "BaseException.__getattribute__")) = false := rfl
  have n2 : (Value.builtin "BaseException.__getattribute__" == Value.builtin "object.__getattribute__") = false := by decide +kernel
  have n1 : (onTheHeap (Value.ref D) && Value.builtin "BaseException.__getattribute__" == Value.builtin "object.__getattribute__") = false := by rw [n2]; rfl
  unfold getAttr? getAttrBy? getAttrBy
  refine wpAny_bind (wpAny_mkText (wpAny_bind (wpAny_attempt (wpAny_holding (wpAny_bind (k0.at (wpAny_bind (k1.at ?_))))))))
  show wpAny _ _ (if (onTheHeap (Value.ref D) && Value.builtin "BaseException.__getattribute__" == Value.builtin "object.__getattribute__") = true then _ else _) _ _ _
  rw [n1, if_neg Bool.false_ne_true]
  unfold getAttrByItsOwn hookBefore
  refine wpAny_bind ?_
  rw [if_pos (show onTheHeap (Value.ref D) = true from rfl)]
  refine k2.at ?_
  refine wpAny_bind (wpAny_attempt (wpAny_holding ?_))
  unfold callGetattribute
  rw [n0, if_neg Bool.false_ne_true]
  unfold boundAndCalled
  rw [PySem.F.excAttr_ValueError.ga.bind (.ref x)]
  refine wpAny_bind (wpAny_pure ?_)
  show wpAny _ _ (call (.builtin "BaseException.__getattribute__") [.ref x, .str "__class__" t]) _ _ _
  refine wpAny_call (codeAny_call_builtin PySem.F.excAttr_ValueError.ga.plain PySem.F.entry_bexc_ga ?_)
  refine @check_slot (model prog w) _ _ ⟨hp, g, d, t + 1, os⟩ "BaseException.__getattribute__" "BaseException" "__getattribute__" (.ref x) [.str "__class__" t] [] _ (by decide +kernel) (by decide +kernel) sb (PySem.F.args_bexc_ga (.ref x) (.str "__class__" t)) ?_
  unfold Builtin.«object.__getattribute__»
  refine wpAny_bind (wpAny_of_eq (a := ((Value.ref x : Value), [Value.str "__class__" t])) (by first | rfl | (simp only [slotArgs]; rfl)) ?_)
  refine wpAny_bind (wpAny_pure (wpAny_bind (k0.at (wpAny_bind (k3.at ?_)))))
  show wpAny _ _ (holding [Value.builtin "object.__class__"] (call (.builtin "getset_descriptor.__get__") [.builtin "object.__class__", .ref x, .ref D]) >>= ret) _ _ _
  refine wpAny_bind (wpAny_holding (wpAny_call (class_get (s := ⟨hp, g, d, t + 1, os⟩) (ox := ox) (od := od) X I C.hm ?_)))
  refine wpAny_pure ?_
  show wpAny _ _ (handedOut (.ref D)) _ _ _
  rw [handedOut_of (v := .ref D) rfl]
  first
    | exact wpAny_pure (wpAny_pure h)
    | exact wpAny_pure h
    | exact wpAny_pure (wpAny_bind (wpAny_pure (wpAny_pure h)))
theorem kit_at (C : L2.ExcC K D) : KitX K (.ref x) (.ref D) (fun h => InstAt h x ox D od) where
  ty := fun _ _ _ I => I.type
  it := fun _ _ X _ => by
    obtain ⟨cd, hc, _⟩ := any_some C.hd
    unfold clsIn at hc
    split at hc
    · rename_i e
      exact fun A' Q' E' s' k q => wpAny_bind (m := loadHead D) (wpAny_loadPart (k _ _ (X _ _ e)) (wpAny_pure q))
    · cases hc
  ne := (handS_kitx_exc (x := x) (ox := ox) C.hg C.hk C.hs C.hd C.ha C.hn C.ht C.hm).ne
  ca := fun X I k => classE_at C X I k
end
open L2
/-- isinstance(e, c), e an error that was kept, with fields or without -/
def rIsF (K : PySem.W.Frag) : List V → Hp → VK → Prop := fun xs H Q => ∃ (a D : Addr) (d : Option Addr) (c : V) (cv : Value) (b : Bool), xs = [.ref a, c] ∧ H a = some (BX.ExK (.ref D) d a) ∧ (∀ dd, d = some dd → ∃ fs, H dd = some (.xd fs)) ∧ ExcC K D ∧ (∀ u, RelV c u → u = cv) ∧ PySem.W.kitOne K (.ref D) cv = some b ∧ Q (.bl b) H
theorem call_isF {X : Cx} : CallR X (.builtin "isinstance") (rIsF X.K) := by
  intro pins s σ H xs us Q I r h
  obtain ⟨a, D, d, c, cv, b, rfl, ha, hd, C, hcv, e, q⟩ := h
  cases r with
  | cons rx rr =>
    cases rr with
    | cons rt rr =>
      cases rr
      cases rx
      have ec := hcv _ rt
      subst ec
      obtain ⟨oe, vs, hget, hz, hv⟩ := (I.hok a _ ha).1
      obtain ⟨od, J⟩ : ∃ od, PySem.W.InstAt s.heap a oe D od := by
        obtain ⟨oc, od, oda, osl⟩ := oe
        obtain ⟨h1, h2⟩ := hz
        dsimp only at h1 h2 hv
        subst h1 h2 hv
        cases od with
        | none => exact ⟨none, hget, rfl, rfl, trivial⟩
        | some dd =>
          obtain ⟨fs, hfs⟩ := hd dd rfl
          have hx : ObjOk X.prog X.w H s.heap dd (.xd fs) := I.hok dd _ hfs
          obtain ⟨mA, hns, _⟩ := hx
          obtain ⟨o2, _, _, ho, _⟩ := hns
          exact ⟨some o2, hget, rfl, rfl, ho⟩
      exact PySem.W.kia_one (kit_at C) I.kIn J e (fun z => nomatch z) fun tk => ⟨.bl b, H, I.kept (t' := tk) fun _ _ z => z, rfl, q⟩
/-- what the written part says of a class with its own __init__ -/
def oexIn (K : PySem.W.Frag) (C : Addr) : Bool := match K.lookup C with
  | some ⟨.type "type", _, .cls cd, sl⟩ => (match cd.mro, sl.toList with
    | .ref C' :: bm, [_, _, _, _, some (.builtin n), _] => C' == C && n == "ValueError.__new__" && !cd.hasDel && cd.hasDict && PySem.HandSPX.refsVE bm
    | _, _ => false)
  | _ => false
theorem oex_mk {K : PySem.W.Frag} {C : Addr} (q : oexIn K C = true) (sa : PySem.W.findIn K (.ref C) "__setattr__" = some (some (.builtin "object.__setattr__"))) (ex : PySem.W.subIn K (.ref C) (.type "BaseException") = some true) (ty : PySem.W.typeIn K (.ref C) = some (.type "type")) (kp : PySem.W.keepIn K (.ref C) = true) : OexC K C := by
  refine ⟨?_, sa, ex, ty, kp⟩
  unfold oexIn at q
  split at q
  · rename_i dd cd sl ho
    split at q
    · rename_i C' bm k0 k1 k2 k3 n k5 hm hs
      simp only [Bool.and_eq_true, beq_iff_eq, Bool.not_eq_true'] at q
      obtain ⟨⟨⟨⟨rfl, rfl⟩, hdel⟩, hdct⟩, ht⟩ := q
      obtain ⟨nm, bs, mro, ns, qn, hd, sn, sub, ab, col, del⟩ := cd
      dsimp only at hm hdel hdct
      subst hm hdel hdct
      obtain ⟨l⟩ := sl
      simp only at hs
      subst hs
      exact ⟨nm, qn, ns, bs, bm, sn, sub, ab, col, dd, k0, k1, k2, k3, k5, ho, ht⟩
    · cases q
  · cases q
/-- raise C(e, ..) out of a def, C's own __init__ keeping sp -/
abbrev tRaiseI (C : Addr) (sp : Sp) (ta : TA) (E : XK) : TS := fun _ σ H => tMkO C sp [] ta σ H E
theorem ps_raiseI {X : Cx} {CX : CXT} {E : XK} {C fI : Addr} {k : Nat} {fd : FuncData} {ps : List Str} {sp : Sp} {x : Str} {e : Expr} {es : List Expr} {ta : TA} {p pos pos2 : Pos} {E₁ : Value → Shared → Prop} (T : OexC X.K C) (iC : PySem.W.findIn X.K (.ref C) "__init__" = some (some (.ref fI))) (tI : PySem.W.typeIn X.K (.ref fI) = some (.type "function"))
    (F1 : FnOk X.prog X.w X.K X.mg X.base CX k fI fd ps sp) (hp : Passes CX X (fun _ _ _ => False)) (hr : Room (k + 1) X.A) (hb : Binds X.K fd ps []) (hg : Gl X x) (hm : X.mg x = some (.ref C)) (ha : PA X (e :: es) ta) (hc : X.calm = true) (hs : X.stack = X.env :: X.outer) (hf : X.env.frame = some X.env.locals) (hex : X.ex = [])
    (hx : X.xe = fun e s' => wpAny (model X.prog X.w) X.A (leaving X.env e) (fun _ s'' => L2.CX X.prog X.w X.outer X.H_0 X.s_0 E e s'') E₁ s') (hdb : (x == ("__debug__" : Str)) = false := by decide)
    (he : starEach (e :: es) X.env = (false, eval e X.env) :: starEach es X.env := by rfl) (hpl : (backTo pos (starEach es X.env)).any (·.1) = false := by rfl) :
    PS X (.Raise (some (.Call (.Name x p) (e :: es) [] pos)) none pos2) (tRaiseI C sp ta E) :=
  ps_raise hc (takes_of hs hf hex hx) (pmk_oex (dvs := []) T iC tI F1 hr hb .nil hp hg hm ha hdb he hpl)
end BE
namespace B
open PySem L2
/-- s.upper() -/
abbrev rUpper : V → List V → Hp → VK → Prop := fun x xs H Q => ∃ a, x = .str a ∧ xs = [] ∧ a.length ≤ 5592405 ∧ Q (.str (Txt.upper a)) H
end B
/-! B: == and != of an own instance and a thing of any kind -/
namespace B
open PySem L2 PySem.Spec PyProof.Rows
section
variable {prog : Program} {w : World} {A : Around} {E : Value → Shared → Prop} {s : Shared} {K : Fg} {x C L f : Addr} {y : Value} {h₀ : Heap} {m : Str → Option Value} {ox : Obj} {od : Option Obj}
theorem ne_bodyA {Q : PySem.Fin → Shared → Prop} (X : K.In s.heap) (I : PySem.W.InstAt s.heap x ox C od) (hs : PySem.W.findIn K (.ref C) "__eq__" = some (some (.ref f))) (hf : PySem.W.isFn K (.ref f) = true) (hu : A.units < cLine)
    (h : wpAny (model prog w) A (call (.ref f) [.ref x, y]) (fun v s' => ∃ b, v = .bool b ∧ Q (.done (.ret (.bool (!b)))) s') E s) : wpAny (model prog w) A (Builtin.«object.__ne__» ⟨[.ref x, y], []⟩) Q E s := by
  unfold Builtin.«object.__ne__»
  repeat (first
    | with_reducible refine wpAny_cRoomFor hu ?_
    | (refine wpAny_bind (m := callSpecialIfBound? (.ref x) (Str.ofString "__eq__") [y]) (PySem.W.ifBound_K X I hs hf (wpAny_mono h (fun v s' hv => ?_) fun _ _ e => e)))
    | wp_step)
  obtain ⟨b, rfl, q⟩ := hv
  repeat (first | exact q | exact wpAny_pure q | exact wpAny_truthy_bool q | (refine wpAny_bind (m := truthy (.bool _)) (wpAny_truthy_bool ?_)) | wp_step)
end
section
variable {X : Cx} {CX : CXT} {k : Nat} {f C : Addr} {fd : FuncData} {ps : List Str} {sp : Sp} {E : XK}
/-- x == y, x an instance of the class at C, whose own __eq__ keeps the promise sp; y of any kind -/
def rInsEqA (K : Fg) (C : Addr) (sp : Sp) (E : XK) : R2 := fun x y H Q => ∃ a dx fs t, x = .ref a ∧ H a = some (.ins C dx fs) ∧ TyX K H y t ∧ PySem.W.notFirst K C t = true ∧ sp [x, y] H Q E
theorem op_insEqA (F : FnOk X.prog X.w X.K X.mg X.base CX k f fd ps sp) (hr : Room k X.A) (hm : Meth X.K C "__eq__" f) (hb : Binds X.K fd ps []) (hx : Passes CX X E) : OpR X (compareOp .Eq) (rInsEqA X.K C sp E) := by
  intro pins s σ H x y v u Q I rx ry h
  obtain ⟨a, dx, fs, t, rfl, ha, ty, hn, q⟩ := h
  cases (show v = Value.ref a from rx)
  obtain ⟨mA, J, _⟩ := ins_get I.hok ha
  obtain ⟨od, J, _⟩ := J.look
  obtain ⟨P, kx, hp, _⟩ := kit_of I ry ty
  obtain ⟨m, hF⟩ := I.fr
  show wpAny (model X.prog X.w) X.A (richCompare .Eq (.ref a) u) (EP X pins σ Q) X.xe s
  refine PySem.W.cmp_K (op := .Eq) (tb := t) hr.units0 hF I.ok.mod.kin J (kx.ty _ _ I.kIn hp) hn hm.at_ hm.fn ?_
  refine wpAny_mono (run_fn (us := [.ref a, u]) (vs := [.ref a, y]) (dvs := []) F hr hb .nil hx I (.cons rfl (.cons ry .nil)) q) (fun w s' z => ?_) fun _ _ x => x
  obtain ⟨z', H', I', rz, qz⟩ := z
  exact SlX.cmpback rz ⟨z', H', I', rz, qz⟩
/-- x != y -/
def rInsNeA (K : Fg) (C : Addr) (sp : Sp) (E : XK) : R2 := fun x y H Q => ∃ a dx fs t, x = .ref a ∧ H a = some (.ins C dx fs) ∧ TyX K H y t ∧ PySem.W.notFirst K C t = true ∧ sp [x, y] H (fun v H' => ∃ r, v = .bl r ∧ Q (.bl (!r)) H') E
theorem op_insNeA (F : FnOk X.prog X.w X.K X.mg X.base CX k f fd ps sp) (hr : Room (k + 1) X.A) (hm : Meth X.K C "__eq__" f) (hn : PySem.W.findIn X.K (.ref C) "__ne__" = some (some (.builtin "object.__ne__")))
    (ho : PySem.W.mroIn X.K C (.type "object") = some true) (hb : Binds X.K fd ps []) (hx : Passes CX X E) : OpR X (compareOp .NotEq) (rInsNeA X.K C sp E) := by
  intro pins s σ H x y v u Q I rx ry h
  obtain ⟨a, dx, fs, t, rfl, ha, ty, hnf, q⟩ := h
  cases (show v = Value.ref a from rx)
  obtain ⟨mA, J, _⟩ := ins_get I.hok ha
  obtain ⟨od, J, _⟩ := J.look
  obtain ⟨P, kx, hp, _⟩ := kit_of I ry ty
  obtain ⟨m, hF⟩ := I.fr
  have XK := I.kIn
  show wpAny (model X.prog X.w) X.A (richCompare .NotEq (.ref a) u) (EP X pins σ Q) X.xe s
  have own : wpAny (model X.prog X.w) X.A.in1 (call (.ref f) [.ref a, u]) (fun v s' => ∃ r, v = .bool r ∧ EP X pins σ Q (.bool (!r)) s') X.xe s := by
    have hl := F.len _ _ _ _ q
    have r2 : Vals [V.ref a, y] [Value.ref a, u] := .cons rfl (.cons ry .nil)
    refine wpAny_call (codeAny_mono (F.run X.A.in1 X.stack s H ⟨[.ref a, u], []⟩ [.ref a, u] [.ref a, y] _ E hr.in1 I.env0.in1 (by
      have := hb s [.ref a, u] I.kIn (by simpa using hl)
      simpa using this) r2 q) fun r s' hq => ?_)
    cases r with
    | error e => exact hx pins σ H s e s' I hq
    | ok fl =>
      cases fl with
      | ret w =>
        obtain ⟨z, H', I', rz, r, rfl, q'⟩ := I.after hq
        cases rz
        exact ⟨r, rfl, .bl (!r), H', I', rfl, q'⟩
      | next => exact False.elim hq
      | brk => exact False.elim hq
      | cont => exact False.elim hq
  have one : wpAny (model X.prog X.w) X.A (tryCompare (.ref a) "__ne__" u) (fun r s' => ∃ v, r = some v ∧ EP X pins σ Q v s') X.xe s := by
    unfold tryCompare
    refine wpAny_bind (ne_bound XK J hn (wpAny_call (codeAny_call_builtin PySem.F.cmp_object.ne.plain PySem.F.cmpEntry_ne (@PySem.W.check_slot (model X.prog X.w) _ _ s "object.__ne__" "object" "__ne__" (.ref a) [u] [] _ PySem.F.cmpKind_ne PySem.F.cmpSplit_ne
      (J.type.andThen (PySem.W.looks_mroIn XK ho)) (PySem.F.cmpArgs_ne _ _) ?_))))
    refine ne_bodyA (s := s) XK J hm.at_ hm.fn hr.in1.units0 (wpAny_mono own (fun v s' z => ?_) fun _ _ e => e)
    obtain ⟨r, rfl, z⟩ := z
    refine ⟨r, rfl, ?_⟩
    exact wpAny_pure ⟨_, rfl, z⟩
  unfold richCompare
  simp only [oneThing_ref]
  refine wpAny_holding (wpAny_bind (wpAny_cRoomFor hr.units0 ?_))
  refine wpAny_bind (J.type.here (wpAny_bind ((kx.ty _ _ I.kIn hp).here ?_)))
  split
  · rename_i q
    have e : PySem.W.subIn X.K t (.ref C) = some false := by
      rcases Bool.or_eq_true_iff.mp hnf with e | e
      · rw [beq_iff_eq.mp e] at q; simp at q
      · exact beq_iff_eq.mp e
    refine wpAny_bind ((PySem.W.looks_subIn XK e).here ?_)
    simp only [Bool.false_eq_true, if_false]
    refine wpAny_bind (wpAny_mono one (fun r s' z => ?_) fun _ _ e => e)
    obtain ⟨v, rfl, hq⟩ := z
    exact wpAny_pure hq
  · refine wpAny_bind (wpAny_pure ?_)
    simp only [Bool.false_eq_true, if_false]
    refine wpAny_bind (wpAny_mono one (fun r s' z => ?_) fun _ _ e => e)
    obtain ⟨v, rfl, hq⟩ := z
    exact wpAny_pure hq
end
end B
/-! B: data of any kind -/
namespace B
open PySem PySem.Spec PyProof.Rows L2
open PySem.W (Tup T3 T4 Datum DatumOrd)
mutual
theorem nd_plain : ∀ d : PyData, d.plain = true → d.hasDict = false
  | .none, _ => rfl
  | .bool _, _ => rfl
  | .int _, _ => rfl
  | .str _, _ => rfl
  | .list xs, h => by simp only [PyData.plain] at h; simp only [PyData.hasDict]; exact nd_plains xs h
  | .tuple xs, h => by simp only [PyData.plain] at h; simp only [PyData.hasDict]; exact nd_plains xs h
  | .dict _, h => by simp [PyData.plain] at h
theorem nd_plains : ∀ ds : List PyData, PyData.plainAll ds = true → PyData.hasDictAll ds = false
  | [], _ => by simp [PyData.hasDictAll]
  | d :: ds, h => by
    simp only [PyData.plainAll, Bool.and_eq_true] at h
    simp only [PyData.hasDictAll, nd_plain d h.1, nd_plains ds h.2, Bool.or_self]
end
theorem dpd_ext {K : Fg} {H H' : Hp} (e : Ext H H') {d : PyData} {v : V} (h : DpD K H v d) : DpD K H' v d := by
  cases h with
  | pl h n => exact .pl (dp_ext e _ _ h) n
  | dc h => exact .dc (e.rd h)
instance : Py PyData := ⟨fun K H v d => DpD K H v d, fun e h => dpd_ext e h⟩
section
variable {α : Type} [DecidableEq α] [Datum α] [Py α] [PyD α] {K : Fg} {W : Wd} {σ : SS} {ε : Ef} {te : TE}
theorem rep_dt {H : Hp} {v : V} {x : α} (h : rep K H v x) : rep K H v (Datum.toD x) := .pl (PyD.dp h) (nd_plain _ (Datum.plain x))
theorem ev_dt {x : α} (h : EvR ε K te σ W x) : EvR ε K te σ W (Datum.toD x) := fun W1 g1 Q k => h W1 g1 Q fun v W2 g2 r => k v W2 g2 (rep_dt r)
theorem ev_dd (h : EvD ε K te σ W (⟨[]⟩ : Dict Int Int)) : EvR ε K te σ W (PyData.dict []) := fun W1 g1 Q k => h.rep W1 g1 Q fun v W2 g2 ⟨a, ks, e, r, kr⟩ => k v W2 g2 (by
  cases kr
  subst e
  exact DpD.dc (kv := []) r)
end
def dcls : PyData → String
  | .int _ => "int" | .bool _ => "bool" | .none => "NoneType" | .str _ => "str" | .tuple _ => "tuple" | .list _ => "list" | .dict _ => "dict"
theorem ty_sql {K : Fg} {H : Hp} {a : Addr} {xs : List V} (h : SqL K H a xs) : TyX K H (.ref a) (.type "list") := by
  rcases h with (h | ⟨o, h⟩) | ⟨o, its, n, h1, h2, _⟩
  · exact .base (.lst h)
  · exact .base (.frz h)
  · exact .kList h1 h2
theorem ty_sqt {K : Fg} {H : Hp} {a : Addr} {xs : List V} (h : SqT K H a xs) : TyX K H (.ref a) (.type "tuple") := by
  rcases h with (h | ⟨o, h⟩) | ⟨o, its, n, h1, h2, _⟩
  · exact .base (.tup h)
  · exact .fTuple h
  · exact .kTuple h1 h2
theorem ty_dt {K : Fg} (W1 : Wd) (v : V) (d : PyData) (h : rep K W1.B v d) : TyX K W1.H v (.type (dcls d)) := by
  have h2 : DpD K W1.H v d := dpd_ext W1.sub h
  clear h
  cases h2 with
  | pl h _ =>
    cases h with
    | non => exact .base .non
    | bl b => exact .base (.bl b)
    | int i => exact .base (.int i)
    | str s => exact .base (.str s)
    | lst hs _ => exact ty_sql hs
    | tup hs _ => exact ty_sqt hs
  | dc h =>
    rcases h with z | ⟨o, z⟩
    · exact .base (.dK z)
    · exact .fDict z
theorem rc_isD {K : Fg} {c : String} {d : PyData} {b : Bool} (hk : kitB (dcls d) c = some b) : RC2 K (rIsi K) d (Raw.mk (.ty c)) b := rc_isi (fun W1 v h => ty_dt W1 v d h) hk
/-- that a thing is of no such kind -/
def KdNo (K : Fg) (c : String) (v : V) (W : Wd) : Prop := ∃ a : String, (∀ W', Grow W W' → TyX K W'.H v (.type a)) ∧ kitB a c = some false
theorem KdNo.gr {K : Fg} {c : String} {v : V} {W W' : Wd} (h : KdNo K c v W) (g : Grow W W') : KdNo K c v W' := by
  obtain ⟨a, h1, h2⟩ := h
  exact ⟨a, fun W2 g2 => h1 W2 (g.trans g2), h2⟩
theorem kdno_dt {K : Fg} {c : String} {v : V} {W : Wd} {d : PyData} (h : rep K W.B v d) (hk : kitB (dcls d) c = some false) : KdNo K c v W := ⟨_, fun W' g => ty_dt W' v d (rep_g g h), hk⟩
theorem ev_kdNo {K : Fg} {c : String} {v : V} {W : Wd} {σ : SS} {te : TE} (h : EvR pur K te σ W (Raw.mk v)) (n : KdNo K c v W) : EvR pur K (tCB (rIsi K) (tCons te (tCons (tC (.ty c)) tNil))) σ W false := fun W1 g1 Q k => h W1 g1 _ fun u W2 g2 e => by
  obtain ⟨a, h1, h2⟩ := n
  rw [show u = v from e]
  exact ⟨v, .ty c, .type a, .type c, false, rfl, .ty c, h1 W2 (g1.trans g2).pure, kit_ty h2, k _ W2 g2 rfl⟩
/-- that a thing is no instance of an own class -/
def KdOf (K : Fg) (C : Addr) (v : V) (W : Wd) : Prop := ∃ t : Value, (∀ W', Grow W W' → TyX K W'.H v t) ∧ PySem.W.kitOne K t (.ref C) = some false
theorem KdOf.gr {K : Fg} {C : Addr} {v : V} {W W' : Wd} (h : KdOf K C v W) (g : Grow W W') : KdOf K C v W' := by
  obtain ⟨t, h1, h2⟩ := h
  exact ⟨t, fun W2 g2 => h1 W2 (g.trans g2), h2⟩
theorem ev_kdOf {K : Fg} {C : Addr} {W : Wd} {σ : SS} {te : TE} {v : V} (h : EvR pur K te σ W (Raw.mk v)) (n : KdOf K C v W) : EvR pur K (tCB (rIsi K) (tCons te (tCons (tC (.ref C)) tNil))) σ W false := fun W1 g1 Q k => h W1 g1 _ fun u W2 g2 e => by
  obtain ⟨t, h1, h2⟩ := n
  rw [show u = v from e]
  exact ⟨v, .ref C, t, .ref C, false, rfl, .own C, h1 W2 (g1.trans g2).pure, h2, k _ W2 g2 rfl⟩
end B
/-! B: sorted(tuple of ints), xs[lo:hi:k] of a list, == of things that hold dicts, with any answer -/
namespace B
open PySem L2 PyProof.Rows
open PySem.W (Tup T3 T4 Datum DatumOrd)
open Evl (Ex)
def rSortedIT (K : Fg) : List V → Hp → VK → Prop := fun vs H Q => ∃ (a : Addr) (xs : List Int), vs = [V.ref a] ∧ SqT K H a (xs.map V.int) ∧ xs.length < 64 ∧ ∀ (ys : List Int) (p : Addr), ys.Perm xs → ys.Pairwise (· ≤ ·) → H p = none → Q (.ref p) (upd H p (.lst (ys.map V.int)))
theorem cr_sortedIT {X : Cx} : CallR X (.builtin "sorted") (rSortedIT X.K) := by
  intro pins s σ H vs us Q I r h
  obtain ⟨a, xs, rfl, hs, h64, q⟩ := h
  obtain ⟨its, rv, ⟨o, ho, hc, n, hd⟩, _⟩ := I.tuple hs
  rw [Vals.ref1 r]
  have hlen0 := rv.length
  rw [List.length_map] at hlen0
  have hS := rv.ints
  refine Calls.call_function_entry kind_sorted plain_sorted entry_sorted (args_sorted1 _) ?_
  unfold Builtin.«sorted»
  refine wpAny_bind (m := checkCount "sorted" 1 1 _) (wpAny_pure ?_)
  refine wpAny_bind (wpAny_collect_seq a (.inr rfl) ho hc hd (fun h' hk => ?_) (by rw [List.size_toArray, ← hlen0]; exact small64 h64))
  refine wpAny_bind (wpAny_newList ?_ (by show its.length ≤ _; rw [← hlen0]; exact small64 h64))
  have hoL : (h'.push (seqObj "list" its.toArray 0)).get? h'.objs.size = some (seqObj "list" its.toArray 0) := Heap.get?_push_size _ rfl
  have I1 : Inv X pins σ H { s with heap := h' } := I.kept (t' := s.toks) hk
  show wpAny _ _ _ _ _ { s with heap := h'.push (seqObj "list" its.toArray 0) }
  refine wpAny_bind (wpAny_holding (wpAny_call_entry slot_list_sort ⟨_, hoL, rfl⟩ entry_list_sort (list_sort_tree hoL hS (by rw [← hlen0]; exact h64) fun out ys h1 h2 h3 => ⟨_, rfl, ?_⟩) (args_list_sort _)))
  obtain ⟨e', he'⟩ := PyProof.Rows.sortedHeap_at (vs := its) (out := out) hoL
  have hlen : (ys.map V.int).length ≤ sizeLine := by rw [List.length_map, h2.length_eq]; exact small64 h64
  refine wpAny_pure ⟨_, rfl, .ref h'.objs.size, upd H h'.objs.size (.lst (ys.map V.int)), I1.laid (t' := s.toks) (fun b u e => ?_) (Nat.le_refl _) (show ObjOk X.prog X.w _ _ _ (.lst (ys.map V.int)) from ⟨hlen, out.toList, e', vals_of_ints h1, by rw [Array.toArray_toList]; exact he'⟩), rfl, q ys _ h2 h3 (I1.hok.fresh (Nat.le_refl _))⟩
  have hb : b < h'.objs.size := Heap.lt_size e
  show (sortedHeap _ _ _ out).get? b = _
  rw [PyProof.Rows.sortedHeap_old (Nat.ne_of_lt hb) (by rw [size_push']; exact Nat.lt_succ_of_lt hb)]
  exact Heap.get?_push_of_some _ e
theorem sortI_is {xs ys : List Int} (h1 : ys.Perm xs) (h2 : ys.Pairwise (· ≤ ·)) : ys = sortI xs := (h1.trans (sortI_perm _).symm).eq_of_pairwise (fun a b _ _ h h' => Int.le_antisymm h h') h2 (sortI_pw _)
section
variable {K : Fg} {W W' : Wd} {σ : SS} {ε : Ef} {te ta tb : TE}
theorem ev_sortIT {xs : Tup Int} (h : EvR ε K te σ W xs) (hl : xs.items.length < 64) : EvR ε K (tCB (rSortedIT K) (tCons te tNil)) σ W (sortI xs.items) := fun W1 g1 Q k => h W1 g1 _ fun v W2 g2 r => by
  obtain ⟨a, vs, e, hb, rr⟩ := rep_h r
  refine ⟨a, xs.items, by rw [e], SqT.of ?_, hl, fun ys p h1 h2 hp => ?_⟩
  · rw [← reps_int rr]; exact hb
  · rw [sortI_is h1 h2]
    exact k _ (W2.add p _) (g2.and (W2.grow_add hp)) ⟨p, _, rfl, upd_same, int_reps _⟩
theorem ev_sortIL {xs : List Int} (h : EvR ε K te σ W xs) : EvR ε K (tCB (rSortedI K) (tCons te tNil)) σ W (sortI xs) := fun W1 g1 Q k => h W1 g1 _ fun v W2 g2 r => by
  obtain ⟨a, vs, e, hb, rr⟩ := rep_h r
  refine ⟨a, xs, by rw [e], SqL.of ?_, fun ys p h1 h2 hp => ?_⟩
  · rw [← reps_int rr]; exact hb
  · rw [sortI_is h1 h2]
    exact k _ (W2.add p _) (g2.and (W2.grow_add hp)) ⟨p, _, rfl, upd_same, int_reps _⟩
end
/-! xs[lo:hi:k] of a list -/
def lsIx (lo hi : Option Int) (k : Int) (n : Nat) : List Nat := sliceRange (sliceBounds lo hi (some k) n).1 (sliceBounds lo hi (some k) n).2.1 (sliceBounds lo hi (some k) n).2.2
def pickL {α : Type} (lo hi : Option Int) (k : Int) (xs : List α) : List α := (lsIx lo hi k xs.length).filterMap fun m => xs[m]?
def tLstStep (K : PySem.W.Frag) (te : TE) (lo hi : Option Int) (k : Int) : TE := fun σ H Q => te σ H fun x H1 => ∃ a xs, x = .ref a ∧ SqL K H1 a xs ∧ ∀ p, H1 p = none → Q (.ref p) (upd H1 p (.lst (pickL lo hi k xs)))
theorem pickL_len {α : Type} (lo hi : Option Int) (k : Int) (xs : List α) : (pickL lo hi k xs).length ≤ xs.length := by
  have h := slicePick_size_le ((xs.map fun _ => Value.none).toArray) lo hi (some k)
  have e : (pickL lo hi k xs).length = (slicePick ((xs.map fun _ => Value.none).toArray) lo hi (some k)).size := by
    unfold slicePick pickL lsIx
    rw [List.size_toArray]
    simp only [List.size_toArray, List.length_map]
    generalize sliceRange _ _ _ = l
    induction l with
    | nil => rfl
    | cons m l ih =>
      cases hx : xs[m]? with
      | none => rw [List.filterMap_cons_none hx, List.filterMap_cons_none (by simp [hx])]; exact ih
      | some y => rw [List.filterMap_cons_some hx, List.filterMap_cons_some (b := Value.none) (by simp [hx])]; simp [ih]
  rw [e]
  simpa using h
theorem pe_lstStep {X : Cx} {e : Expr} {te : TE} {lo hi : Option Expr} {st : Expr} {ol oh : Option Int} {k : Int} {p3 pos : Pos} (he : PE X e te) (hl : BY.PCn X lo ol) (hh : BY.PCn X hi oh) (hk : BY.PCn X (some st) (some k)) (h0 : k ≠ 0) : PE X (.Subscript e (.Slice lo hi (some st) p3) pos) (tLstStep X.K te ol oh k) := by
  refine ⟨fun pins s σ H Q I h => ?_⟩
  refine Subscript_ (thn (he.run pins s σ H _ I h) fun v s1 ⟨x, H1, I1, r1, q1⟩ => ?_)
  obtain ⟨a, xs, ex, hx, q⟩ := q1
  subst ex
  cases r1
  refine wpAny_Slice (hl.run pins s1 σ H1 _ I1 fun vl pl s2 I2 => hh.run pins s2 σ H1 _ I2 fun vu pu s3 I3 => hk.run pins s3 σ H1 _ I3 fun vs ps s4 I4 => ?_)
  have I5 : Inv X pins σ H1 { s4 with heap := s4.heap.push { cls := .type "slice", data := .fields #[vl, vu, vs] } } := I4.kept (t' := s4.toks) fun b ob q => Heap.get?_push_of_some _ q
  obtain ⟨its, r, ht, hz⟩ := I5.list hx
  have hlen : its.toArray.size = xs.length := by rw [List.size_toArray]; exact r.length.symm
  show wpAny (model X.prog X.w) X.A (subscriptTail e (.Slice lo hi (some st) p3) (.ref a) (.ref s4.heap.objs.size)) (EP X pins σ Q) X.xe { s4 with heap := s4.heap.push { cls := .type "slice", data := .fields #[vl, vu, vs] } }
  refine tail_any (ops := [.ref a, .ref s4.heap.objs.size]) ht.isList.typeIs slot_list_getitem.lookup ?_ (by with_unfolding_all rfl)
  refine wpAny_getItem_list_slice ht.isList (Heap.IsSliceOf.new _ vl vu vs) pl pu ps (by simpa using h0) ?_ (by rw [hlen]; exact hz)
  refine ⟨.ref _, _, I5.laid (t' := s4.toks) (o := .lst (pickL ol oh k xs)) (fun b ob q => Heap.get?_push_of_some _ q) (Nat.le_refl _) ?_, rfl, q _ (I5.hok.fresh (Nat.le_refl _))⟩
  have e : slicePick its.toArray ol oh (some k) = ((lsIx ol oh k xs.length).filterMap fun m => its.toArray[m]?).toArray := by
    unfold slicePick lsIx
    rw [hlen]
  rw [e]
  exact ⟨Nat.le_trans (pickL_len _ _ _ _) hz, _, 0, BY.vals_pick r _, Heap.get?_push_size _ rfl⟩
theorem reps_pick {α : Type} [Py α] {K : Fg} {H : Hp} {us : List V} {xs : List α} (r : Reps K H us xs) : ∀ l : List Nat, Reps K H (l.filterMap fun m => us[m]?) (l.filterMap fun m => xs[m]?)
  | [] => .nil
  | m :: l => by
    have ih := reps_pick r l
    have hlen := Reps.len r
    by_cases h : m < xs.length
    · have hu : m < us.length := by omega
      rw [List.filterMap_cons_some (List.getElem?_eq_getElem hu), List.filterMap_cons_some (List.getElem?_eq_getElem h)]
      obtain ⟨v, h1, h2⟩ := Reps.get' r (List.getElem?_eq_getElem h)
      rw [List.getElem?_eq_getElem hu] at h1
      exact .cons (by rw [Option.some.inj h1]; exact h2) ih
    · rw [List.filterMap_cons_none (List.getElem?_eq_none (by omega)), List.filterMap_cons_none (List.getElem?_eq_none (by omega))]
      exact ih
theorem ev_lstStep {α : Type} [Py α] {K : Fg} {W : Wd} {σ : SS} {ε : Ef} {te : TE} {xs : List α} {lo hi : Option Int} {k : Int} (h : EvR ε K te σ W xs) : EvR ε K (tLstStep K te lo hi k) σ W (pickL lo hi k xs) := fun W1 g1 Q q => h W1 g1 _ fun v W2 g2 r => by
  obtain ⟨a, vs, e, hb, rr⟩ := r
  have hb' : W2.H a = some (.lst vs) := (W2.sub _ _ hb).elim id fun z => by
    obtain ⟨⟨_, z⟩, _⟩ := z
    cases z
  have hl : vs.length = xs.length := Reps.len rr
  refine ⟨a, vs, e, SqL.of hb', fun p hp => ?_⟩
  refine q _ (W2.add p _) (g2.and (W2.grow_add hp)) ⟨p, _, rfl, upd_same, ?_⟩
  unfold pickL
  rw [hl]
  exact reps_pick (Reps.mono (exExt (W2.grow_add hp).b) rr) _
end B
/-! == of tuples within one model -/
namespace PySem.SeqAt
open AutoSeq1 (wpAny_loadPart')
open MeetsSeq MeetsSeq2 MeetsSeq3 SeqRoads2
section
variable {prog : Program} {w : World}
theorem handS_tuple_eqIn (l b : Addr) (items items2 : Array Value) (n n2 : Nat) (dd dd2 : Option Addr) (sl sl2 : Array (Option Value)) (e : Nat → Bool) :
    MeetsIn prog w (Builtin.«tuple.__eq__» ⟨[.ref l, .ref b], []⟩)
      (fun A R s => s.heap.get? l = some { cls := .type "tuple", dict := dd, data := .seq items n, slots := sl } ∧ s.heap.get? b = some { cls := .type "tuple", dict := dd2, data := .seq items2 n2, slots := sl2 } ∧
        (∀ j (h1 : j < items.size) (h2 : j < items2.size), EqP prog w A.in1 s items[j] items2[j] (e j)) ∧
        R (.ok (.ret (.bool ((List.range (min items.size items2.size)).all e && items.size == items2.size)))) s) := MeetsIn.of_wp fun A R s h => by
  obtain ⟨hp, g, d, tk, os⟩ := s; obtain ⟨hl, hb, he, h⟩ := h
  have f2 := AutoSeq1.sub_tuple_tuple
  have hZ : (items.toList.zip items2.toList).length = min items.size items2.size := by simp
  wp_walk using wpAny_loadPart' hl, wpAny_loadPart' hb, wpAny_forIn_list _ (fun rest b s' => b.1 = none ∧ s' = ⟨hp, g, d, tk, os⟩ ∧ ∃ i, rest = (items.toList.zip items2.toList).drop i ∧
    R (.ok (.ret (.bool (((List.range (min items.size items2.size)).drop i).all e && items.size == items2.size)))) ⟨hp, g, d, tk, os⟩) _
  case turn =>
    rintro ⟨y, x⟩ rest b s' ⟨hb', rfl, i, hz, hR⟩
    have hlt : i < (items.toList.zip items2.toList).length := by
      rcases Nat.lt_or_ge i (items.toList.zip items2.toList).length with h' | h'
      · exact h'
      · rw [List.drop_of_length_le h'] at hz; cases hz
    have hm : i < min items.size items2.size := hZ ▸ hlt
    have h1 : i < items.size := Nat.lt_of_lt_of_le hm (Nat.min_le_left _ _)
    have h2 : i < items2.size := Nat.lt_of_lt_of_le hm (Nat.min_le_right _ _)
    rw [List.drop_eq_getElem_cons hlt] at hz
    injection hz with hyx hrest
    have hy : y = items[i] := by have := congrArg Prod.fst hyx; simpa using this
    have hx : x = items2[i] := by have := congrArg Prod.snd hyx; simpa using this
    subst hy hx
    have hd : (List.range (min items.size items2.size)).drop i = i :: (List.range (min items.size items2.size)).drop (i + 1) := by simp [List.drop_eq_getElem_cons, hm]
    rw [hd, List.all_cons] at hR
    refine wpAny_bind (he i h1 h2 _ _ ?_)
    cases hy : e i with
    | true =>
      rw [hy] at hR
      wp_walk
      exact ⟨rfl, rfl, i + 1, hrest, by simpa using hR⟩
    | false =>
      rw [hy] at hR
      wp_walk
      exact ⟨_, rfl, by simpa using hR⟩
  case fin =>
    rintro ⟨b1, b2⟩ s' ⟨hb', rfl, i, hz, hR⟩
    simp only at hb'
    subst hb'
    have hge : min items.size items2.size ≤ i := by
      rcases Nat.lt_or_ge i (items.toList.zip items2.toList).length with h' | h'
      · rw [List.drop_eq_getElem_cons h'] at hz; cases hz
      · exact hZ ▸ h'
    rw [List.drop_of_length_le (by simpa using hge)] at hR
    wp_walk
    exact ⟨_, rfl, by simpa [Builtin.Tuple.tupleCompareSizes] using hR⟩
  case h =>
    exact ⟨rfl, rfl, 0, rfl, by simpa using h⟩
theorem rcP_tuples {A : Around} {s : Shared} {l b : Addr} {items items2 : Array Value} {e : Nat → Bool} (hl : s.heap.IsTuple l items) (hb : s.heap.IsTuple b items2) (hu : A.units < cLine)
    (he : ∀ j (h1 : j < items.size) (h2 : j < items2.size), EqP prog w A.in1 s items[j] items2[j] (e j)) (E Q : Value → Shared → Prop) (h : Q (.bool ((List.range (min items.size items2.size)).all e && items.size == items2.size)) s) : wpAny (model prog w) A (richCompare .Eq (.ref l) (.ref b)) Q E s := by
  obtain ⟨⟨cls, dd, data, sl⟩, ho, hc, n, hd⟩ := id hl
  obtain ⟨⟨cls2, dd2, data2, sl2⟩, ho2, hc2, n2, hd2⟩ := id hb
  simp only at hc hd hc2 hd2
  subst hc hd hc2 hd2
  have ta : s.TypeIs (.ref l) "tuple" := ⟨_, ho, rfl⟩
  have tb : s.TypeIs (.ref b) "tuple" := ⟨_, ho2, rfl⟩
  exact wpAny_richCompare_same_room (op := .Eq) ta tb F.slot_tuple_eq (call_meetsIn F.slot_tuple_eq ta F.entry_tuple_eq (F.args_tuple_eq_2 _ _) (handS_tuple_eqIn l b items items2 n n2 dd dd2 sl sl2 e)
    ⟨ho, ho2, he, show Value.bool ((List.range (min items.size items2.size)).all e && items.size == items2.size) ≠ Value.notImplemented ∧ Q (.bool ((List.range (min items.size items2.size)).all e && items.size == items2.size)) s from ⟨(fun x => nomatch x), h⟩⟩) hu
end
end PySem.SeqAt

/-! the answer of == , in full -/
namespace B
open PySem L2 PyProof.Rows
open PySem.W (Tup T3 T4 Datum DatumOrd)
open Evl (Ex)
def AllB (E : V → V → Bool → Prop) : List V → List V → Bool → Prop
  | [], [], r => r = true
  | x :: xs, y :: ys, r => ∃ e r', E x y e ∧ AllB E xs ys r' ∧ r = (e && r')
  | _, _, _ => False
def HitsB (E : V → V → Bool → Prop) (ls : List (Key × V)) : List (Key × V) → Bool → Prop
  | [], r => r = true
  | p :: ks, r => (valV ls p.1 = none ∧ r = false) ∨ ∃ u e r', valV ls p.1 = some u ∧ E p.2 u e ∧ HitsB E ls ks r' ∧ r = (e && r')
def EqA1 (K : Fg) (H : Hp) (E : V → V → Bool → Prop) (x y : V) (r : Bool) : Prop :=
  ∃ a b, x = .ref a ∧ y = .ref b ∧
    ((∃ xs ys, SqL K H a xs ∧ SqL K H b ys ∧ AllB E xs ys r) ∨
     (∃ xs ys, SqT K H a xs ∧ SqT K H b ys ∧ AllB E xs ys r) ∨
     (∃ ks ls r', H a = some (.dK ks) ∧ H b = some (.dK ls) ∧ (ks.length = ls.length → HitsB E ls ks r') ∧ r = (decide (ks.length = ls.length) && r')))
def EqA (K : Fg) (H : Hp) : Nat → V → V → Bool → Prop
  | 0 => fun _ _ _ => False
  | n + 1 => fun x y r => (∃ (α : Type) (_ : DecidableEq α) (_ : Datum α) (a b : α), Dp K H x (Datum.toD a) ∧ Dp K H y (Datum.toD b) ∧ Datum.depth α ≤ n ∧ r = decide (a = b)) ∨ (EqA1 K H (EqA K H n) x y r ∧ (x = y → r = true))
theorem AllB.len {E : V → V → Bool → Prop} : ∀ {xs ys : List V} {r : Bool}, AllB E xs ys r → xs.length = ys.length
  | [], [], _, _ => rfl
  | _ :: _, _ :: _, _, ⟨_, _, _, h, _⟩ => congrArg (· + 1) h.len
  | [], _ :: _, _, h => h.elim
  | _ :: _, [], _, h => h.elim
theorem allB_run {P : Program} {w : World} {A : Around} {s : Shared} {F : V → V → Bool → Prop} (ih : ∀ x y r v u, F x y r → RelV x v → RelV y u → SeqAt.EqP P w A s v u r) :
    ∀ {xs ys : List V} {r : Bool} {us ws : List Value}, AllB F xs ys r → Vals xs us → Vals ys ws → ∃ e : Nat → Bool, (∀ j (h1 : j < us.length) (h2 : j < ws.length), SeqAt.EqP P w A s us[j] ws[j] (e j)) ∧ r = (List.range us.length).all e
  | [], [], r, us, ws, h, r1, r2 => by
    cases r1
    exact ⟨fun _ => true, fun j h1 => absurd h1 (Nat.not_lt_zero j), h⟩
  | x :: xs, y :: ys, r, us, ws, ⟨e, r', h, hs, er⟩, r1, r2 => by
    cases r1 with
    | cons a1 b1 =>
      cases r2 with
      | cons a2 b2 =>
        obtain ⟨e', k, er'⟩ := allB_run ih hs b1 b2
        refine ⟨fun j => match j with | 0 => e | j + 1 => e' j, fun j h1 h2 => ?_, ?_⟩
        · cases j with
          | zero => exact ih _ _ _ _ _ h a1 a2
          | succ j => exact k j (Nat.lt_of_succ_lt_succ h1) (Nat.lt_of_succ_lt_succ h2)
        · rw [er, er', List.length_cons, List.range_succ_eq_map, List.all_cons, List.all_map]
          rfl
  | [], _ :: _, _, _, _, h, _, _ => h.elim
  | _ :: _, [], _, _, _, h, _, _ => h.elim
theorem hitsB_run {P : Program} {w : World} {A : Around} {s : Shared} {F : V → V → Bool → Prop} (ih : ∀ x y r v u, F x y r → RelV x v → RelV y u → SeqAt.EqP P w A s v u r) {ls : List (Key × V)} {vb : List (Key × Value)} (rb : KV ls vb) :
    ∀ {ks : List (Key × V)} {va : List (Key × Value)} {r : Bool}, KV ks va → HitsB F ls ks r → PySem.W.KeqHitsP P w A s vb va r := by
  intro ks va r ra
  unfold KV at ra
  induction ra generalizing r with
  | nil => intro h; rw [show r = true from h]; exact .nil
  | @cons p q ps qs h t k =>
    intro hp
    obtain ⟨h1, h2⟩ := h
    obtain ⟨key, v⟩ := q
    have h1' : p.1 = key := h1
    rcases hp with ⟨n, e⟩ | ⟨u, e, r', hv, hE, hs, er⟩
    · have rr : RelO none (valueAt vb p.1) := by rw [← n]; exact rb.val p.1
      rw [e]
      refine .miss ?_
      rw [← h1']
      cases q : valueAt vb p.1 with
      | none => rfl
      | some z => rw [q] at rr; exact (show False from rr).elim
    · have rr : RelO (some u) (valueAt vb p.1) := by rw [← hv]; exact rb.val p.1
      obtain ⟨y, hy, ry⟩ := rr.some_of
      rw [h1'] at hy
      rw [er]
      exact .hit hy (ih _ _ _ _ _ hE h2 ry) (k hs)
section
variable {X : Cx} {pins : List (Addr × Obj)} {σ : L2.St} {H : Hp} {s : Shared}
theorem eqA1_run (I : Inv X pins σ H s) {A : Around} {F : V → V → Bool → Prop} (hu : A.units < cLine) (ih : ∀ x y r v u, F x y r → RelV x v → RelV y u → SeqAt.EqP X.prog X.w A.in1 s v u r) {x y : V} {r : Bool} {v u : Value} (h : EqA1 X.K H F x y r) (rx : RelV x v) (ry : RelV y u)
    (E Q : Value → Shared → Prop) (q : Q (.bool r) s) : wpAny (model X.prog X.w) A (richCompare .Eq v u) Q E s := by
  obtain ⟨a, b, rfl, rfl, h⟩ := h
  cases (show v = Value.ref a from rx)
  cases (show u = Value.ref b from ry)
  rcases h with ⟨xs, ys, ha, hb, hp⟩ | ⟨xs, ys, ha, hb, hp⟩ | ⟨ks, ls, r', ha, hb, hp, er⟩
  · obtain ⟨us, r1, p1, _⟩ := I.list ha
    obtain ⟨ws, r2, p2, _⟩ := I.list hb
    have hsz : us.toArray.size = ws.toArray.size := by
      rw [List.size_toArray, List.size_toArray, ← r1.length, ← r2.length]
      exact hp.len
    obtain ⟨e, k, er⟩ := allB_run ih hp r1 r2
    refine SeqAt.rcP_lists (e := e) p1.isList p2.isList hsz hu (fun j h1 h2 => ?_) E Q ?_
    · have := k j (by simpa using h1) (by simpa using h2)
      simpa using this
    · rw [List.size_toArray, ← er]
      exact q
  · obtain ⟨us, r1, p1, _⟩ := I.tuple ha
    obtain ⟨ws, r2, p2, _⟩ := I.tuple hb
    have hsz : us.length = ws.length := by
      rw [← r1.length, ← r2.length]
      exact hp.len
    obtain ⟨e, k, er⟩ := allB_run ih hp r1 r2
    refine SeqAt.rcP_tuples (e := e) p1 p2 hu (fun j h1 h2 => ?_) E Q ?_
    · have := k j (by simpa using h1) (by simpa using h2)
      simpa using this
    · rw [List.size_toArray, List.size_toArray, ← hsz, Nat.min_self, beq_self_eq_true, Bool.and_true, ← er]
      exact q
  · obtain ⟨_, ya, va, ra, da⟩ := (show ObjOk X.prog X.w H s.heap a (.dK ks) from I.hok a _ ha)
    obtain ⟨_, yb, vb, rb, db⟩ := (show ObjOk X.prog X.w H s.heap b (.dK ls) from I.hok b _ hb)
    have la : va.length = ks.length := ra.length.symm
    have lb : vb.length = ls.length := rb.length.symm
    refine PySem.W.rcP_dicts (knd := mixKind X.prog X.w) (r := r') ya yb da db hu (fun e => hitsB_run ih rb ra (hp (by rw [← la, ← lb]; exact e))) E Q ?_
    rw [show (va.length == vb.length && r') = r from by rw [er, la, lb]; rfl]
    exact q
theorem eqA_run (I : Inv X pins σ H s) : ∀ (n : Nat) (A : Around), A.units + n < cLine → ∀ (x y : V) (r : Bool) (v u : Value), EqA X.K H n x y r → RelV x v → RelV y u → SeqAt.EqP X.prog X.w A s v u r
  | 0, _, _, _, _, _, _, _, h, _, _ => (show False from h).elim
  | n + 1, A, hu, x, y, r, v, u, h, rx, ry => by
    rcases h with ⟨α, _, _, a, b, ha, hb, hd, er⟩ | ⟨h, same⟩
    · rw [er]
      exact (PySem.W.eqAt_datum (holds_of I ha rx) (holds_of I hb ry) (by omega)).eqP
    · have step := eqA1_run I (A := A) (by omega) (eqA_run I n A.in1 (by show A.units + 1 + n < cLine; omega)) h rx ry
      obtain ⟨a, b, rfl, rfl, _⟩ := h
      cases (show v = Value.ref a from rx)
      cases (show u = Value.ref b from ry)
      by_cases e : a = b
      · subst e
        rw [same rfl]
        exact (SeqAt.EqAt.same _).eqP
      · exact SeqAt.eqP_refs e step
end
section
variable {X : Cx}
/-- a == b, where dicts lie within -/
def rEqQ (K : Fg) : R2 := fun x y H Q => ∃ n r, n ≤ 60 ∧ EqA1 K H (EqA K H n) x y r ∧ Q (.bl r) H
theorem op_eqQ (hu : X.A.units + 64 < cLine) : OpR X (compareOp .Eq) (rEqQ X.K) := by
  intro pins s σ H x y v u Q I rx ry h
  obtain ⟨n, r, hn, h, q⟩ := h
  exact eqA1_run I (A := X.A) (by omega) (eqA_run I n X.A.in1 (by show X.A.units + 1 + n < cLine; omega)) h rx ry _ _ ⟨.bl r, H, I, rfl, q⟩
/-- d != e, two dicts -/
def rNeQ (K : Fg) : R2 := fun x y H Q => ∃ n a b ks ls r', n ≤ 60 ∧ x = .ref a ∧ y = .ref b ∧ H a = some (.dK ks) ∧ H b = some (.dK ls) ∧ (ks.length = ls.length → HitsB (EqA K H n) ls ks r') ∧ Q (.bl (!(decide (ks.length = ls.length) && r'))) H
theorem rcP_dictsNe {prog : Program} {w : World} {κ : Type} [DecidableEq κ] {knd : KeyKind prog w κ} {A : Around} {s : Shared} {a b : Addr} {ka kb : List (κ × Value)} {r : Bool} (ha : (a == sysModules) = false) (hb : (b == sysModules) = false)
    (da : s.heap.DictOf knd a ka) (db : s.heap.DictOf knd b kb) (hu : A.units < cLine) (hits : ka.length = kb.length → PySem.W.KeqHitsP prog w A.in1 s kb ka r) (E Q : Value → Shared → Prop) (h : Q (.bool (!(ka.length == kb.length && r))) s) : wpAny (model prog w) A (compareOp .NotEq (.ref a) (.ref b)) Q E s := by
  refine wpAny_richCompare_same_room (op := .NotEq) da.typeIs db.typeIs PySem.F.slot_dict_ne (wpAny_call_entry PySem.F.slot_dict_ne da.typeIs PySem.F.entry_dict_ne ?_ (PySem.F.args_dict_ne_2 _ _)) hu
  show wpAny _ _ (Builtin.Dict.dictSlotArgs "__ne__" ⟨[.ref a, .ref b], []⟩ >>= _) _ _ s
  refine wpAny_bind ?_
  unfold Builtin.Dict.dictSlotArgs
  refine wpAny_bind (wpAny_notOrdered_dict da.typeIs ?_)
  show wpAny _ _ (pure (Value.ref a, Value.ref b)) _ _ s
  refine wpAny_pure ?_
  refine wpAny_bind (wpAny_isInstance (T := "dict") db.typeIs PySem.F.sub_dict_dict ?_)
  simp only [Bool.not_true, Bool.false_eq_true, if_false]
  refine wpAny_bind (wpAny_pure (wpAny_bind (wpAny_pure ?_)))
  refine wpAny_bind (PySem.W.samePairsP ha hb da db hits ?_)
  refine wpAny_pure ⟨_, rfl, ?_, ?_⟩
  · exact fun x => nomatch x
  · simpa using h
theorem op_neQ (hu : X.A.units + 64 < cLine) : OpR X (compareOp .NotEq) (rNeQ X.K) := by
  intro pins s σ H x y v u Q I rx ry h
  obtain ⟨n, a, b, ks, ls, r', hn, rfl, rfl, ha, hb, hp, q⟩ := h
  cases (show v = Value.ref a from rx)
  cases (show u = Value.ref b from ry)
  obtain ⟨_, ya, va, ra, da⟩ := (show ObjOk X.prog X.w H s.heap a (.dK ks) from I.hok a _ ha)
  obtain ⟨_, yb, vb, rb, db⟩ := (show ObjOk X.prog X.w H s.heap b (.dK ls) from I.hok b _ hb)
  have la : va.length = ks.length := ra.length.symm
  have lb : vb.length = ls.length := rb.length.symm
  have ih := eqA_run (A := X.A.in1) I n
  refine rcP_dictsNe (knd := mixKind X.prog X.w) (r := r') ya yb da db (by omega) (fun e => hitsB_run (eqA_run I n X.A.in1 (by show X.A.units + 1 + n < cLine; omega)) rb ra (hp (by rw [← la, ← lb]; exact e))) _ _ ?_
  rw [show (va.length == vb.length && r') = (decide (ks.length = ls.length) && r') from by rw [la, lb]; rfl]
  exact ⟨.bl _, H, I, rfl, q⟩
end
end B
/-! B: == of dicts, with any answer -/
namespace B
open PySem L2
open PySem.W (Tup T3 T4 Datum DatumOrd)
open Evl (Ex)
/-- two dicts are equal -/
def deq {κ α : Type} [DecidableEq κ] [DecidableEq α] (a b : List (κ × α)) : Bool := decide (a.length = b.length) && a.all fun q => decide (klook b q.1 = some q.2)
theorem klook_memN {κ α : Type} [DecidableEq κ] : ∀ {l : List (κ × α)}, (l.map (·.1)).Nodup → ∀ q ∈ l, klook l q.1 = some q.2
  | [], _, q, h => by simp at h
  | p :: l, nd, q, h => by
    rw [klook_cons]
    rw [List.map_cons, List.nodup_cons] at nd
    rcases List.mem_cons.mp h with rfl | h
    · rw [if_pos rfl]
    · rw [if_neg fun e => nd.1 (by rw [e]; exact List.mem_map_of_mem h)]
      exact klook_memN nd.2 q h
/-- .. that is, if they tell alike of every key -/
theorem deq_iff {κ α : Type} [DecidableEq κ] [DecidableEq α] {a b : List (κ × α)} (na : (a.map (·.1)).Nodup) (nb : (b.map (·.1)).Nodup) : deq a b = true ↔ ∀ k, klook a k = klook b k := by
  unfold deq
  rw [Bool.and_eq_true, decide_eq_true_eq, List.all_eq_true]
  constructor
  · rintro ⟨hl, h⟩ k
    have sub : (a.map (·.1)) ⊆ (b.map (·.1)) := fun k hk => by
      obtain ⟨q, hq, rfl⟩ := List.mem_map.mp hk
      exact List.mem_map.mpr ⟨_, klook_mem (of_decide_eq_true (h q hq)), rfl⟩
    have sub2 : (b.map (·.1)) ⊆ (a.map (·.1)) := fun k hk => by
      by_cases hka : k ∈ a.map (·.1)
      · exact hka
      · have := nodup_le (List.nodup_cons.mpr ⟨hka, na⟩) (m := b.map (·.1)) (fun x hx => by
          rcases List.mem_cons.mp hx with rfl | hx
          · exact hk
          · exact sub hx)
        simp only [List.length_cons, List.length_map] at this
        omega
    cases e : klook a k with
    | some x => exact (of_decide_eq_true (h _ (klook_mem e))).symm
    | none =>
      cases e' : klook b k with
      | none => rfl
      | some y =>
        obtain ⟨q, hq, e2⟩ := List.mem_map.mp (sub2 (List.mem_map.mpr ⟨_, klook_mem e', rfl⟩))
        have := klook_memN na q hq
        rw [show q.1 = k from e2, e] at this
        cases this
  · intro h
    have sub : ∀ {a b : List (κ × α)}, (∀ k, klook a k = klook b k) → (a.map (·.1)).Nodup → (a.map (·.1)) ⊆ (b.map (·.1)) := fun h na k hk => by
      obtain ⟨q, hq, rfl⟩ := List.mem_map.mp hk
      exact List.mem_map.mpr ⟨_, klook_mem ((h _).symm.trans (klook_memN na q hq)), rfl⟩
    have l1 := nodup_le na (fun x hx => sub h na hx)
    have l2 := nodup_le nb (fun x hx => sub (fun k => (h k).symm) nb hx)
    rw [List.length_map, List.length_map] at l1 l2
    exact ⟨by omega, fun q hq => decide_eq_true ((h _).symm.trans (klook_memN na q hq))⟩
theorem deq_congr {κ α : Type} [DecidableEq κ] [DecidableEq α] {a b a' b' : List (κ × α)} (na : (a.map (·.1)).Nodup) (nb : (b.map (·.1)).Nodup) (na' : (a'.map (·.1)).Nodup) (nb' : (b'.map (·.1)).Nodup) (ha : ∀ k, klook a k = klook a' k) (hb : ∀ k, klook b k = klook b' k) : deq a b = deq a' b' := by
  rw [Bool.eq_iff_iff, deq_iff na nb, deq_iff na' nb']
  exact ⟨fun h k => by rw [← ha, ← hb, h], fun h k => by rw [ha, hb, h]⟩
theorem deq_self {κ α : Type} [DecidableEq κ] [DecidableEq α] {a b : List (κ × α)} (na : (a.map (·.1)).Nodup) (nb : (b.map (·.1)).Nodup) (h : ∀ k, klook a k = klook b k) : deq a b = true := (deq_iff na nb).mpr h
section
variable {κ α : Type} [DecidableEq κ] [PyKey κ] [DecidableEq α] [Datum α] [Py α] [PyD α] {K : Fg} {W : Wd} {n : Nat}
theorem eqa_rep {H : Hp} {v u : V} {x y : α} (hv : rep K H v x) (hu : rep K H u y) (hd : Datum.depth α ≤ n) : EqA K H (n + 1) v u (decide (x = y)) := .inl ⟨α, _, _, x, y, PyD.dp hv, PyD.dp hu, hd, rfl⟩
theorem hits_deq {H H' : Hp} {ls : List (Key × V)} {kv' : List (κ × α)} (r2 : KReps K H ls kv') (e : Ext H H') (hd : Datum.depth α ≤ n) : ∀ {ks : List (Key × V)} {kv : List (κ × α)}, KReps K H ks kv → HitsB (EqA K H' (n + 1)) ls ks (kv.all fun q => decide (klook kv' q.1 = some q.2))
  | _, _, .nil => rfl
  | _, _, .cons (a := p) (b := q) ⟨h1, h2⟩ t => by
    rcases klk r2 q.1 with ⟨e1, e2⟩ | ⟨y, u, e1, e2, e3⟩
    · refine .inl ⟨by rw [h1]; exact e2, ?_⟩
      rw [List.all_cons, e1]
      rfl
    · refine .inr ⟨u, _, _, by rw [h1]; exact e2, eqa_rep (Py.mono e h2) (Py.mono e e3) hd, hits_deq r2 e hd t, ?_⟩
      rw [List.all_cons, e1]
      congr 1
      by_cases z : q.2 = y
      · rw [decide_eq_true z, decide_eq_true (by rw [z])]
      · rw [decide_eq_false z, decide_eq_false fun h => z (Option.some.inj h).symm]
theorem eqa1_dict {p q : Addr} {kv kv' : List (κ × α)} (m1 : DMut K W p kv) (m2 : DMut K W q kv') (hd : Datum.depth α ≤ n) : EqA1 K W.H (EqA K W.H (n + 1)) (.ref p) (.ref q) (deq kv kv') := by
  obtain ⟨ks, e1, r1⟩ := m1.ex
  obtain ⟨ls, e2, r2⟩ := m2.ex
  refine ⟨p, q, rfl, rfl, .inr (.inr ⟨ks, ls, _, e1, e2, fun _ => hits_deq r2 W.sub hd r1, ?_⟩)⟩
  rw [KReps.len r1, KReps.len r2]
  rfl
theorem eqa_dict {p q : Addr} {kv kv' : List (κ × α)} (m1 : DMut K W p kv) (m2 : DMut K W q kv') (hd : Datum.depth α ≤ n) (same : p = q → deq kv kv' = true) : EqA K W.H (n + 2) (.ref p) (.ref q) (deq kv kv') := .inr ⟨eqa1_dict m1 m2 hd, fun e => same (by cases e; rfl)⟩
/-- d != e -/
theorem ne_dictQ {p q : Addr} {kv kv' : List (κ × α)} {Q : VK} (m1 : DMut K W p kv) (m2 : DMut K W q kv') (hd : Datum.depth α ≤ 50) (k : Q (.bl (!deq kv kv')) W.H) : rNeQ K (.ref p) (.ref q) W.H Q := by
  obtain ⟨ks, e1, r1⟩ := m1.ex
  obtain ⟨ls, e2, r2⟩ := m2.ex
  refine ⟨51, p, q, ks, ls, _, by decide, rfl, rfl, e1, e2, fun _ => hits_deq r2 W.sub hd r1, ?_⟩
  rw [KReps.len r1, KReps.len r2]
  exact k
end
end B
/-! ladders: what they keep, in plain lists -/
namespace B
open PySem L2
open PySem.W (Tup T3 T4 Datum DatumOrd)
abbrev Stp1 := List (Int × Tup Int)
def asOne (a b : List Int) : List Int := pickL (some 1) none 2 (sortI (a ++ b))
def carry : Nat → Stp1 → Int → List Int → Stp1
  | 0, st, h, r => kput st h ⟨r⟩
  | f + 1, st, h, r => match klook st h with
    | none => kput st h ⟨r⟩
    | some t => carry f (kdrop st h) (h + 1) (asOne t.items r)
def feedF (w : Nat) (s : List Int × Stp1) (n : Int) : List Int × Stp1 := if (s.1 ++ [n]).length = w then ([], carry s.2.length s.2 0 (sortI (s.1 ++ [n]))) else (s.1 ++ [n], s.2)
theorem carry_none {st : Stp1} {h : Int} {r : List Int} (e : klook st h = none) : ∀ f, carry f st h r = kput st h ⟨r⟩
  | 0 => rfl
  | f + 1 => by simp only [carry]; rw [e]
/-! steps -/
theorem lsIx_odd : ∀ n : Fin 17, lsIx (some 1) none 2 n.1 = (List.range (n.1 / 2)).map fun i => 2 * i + 1 := by decide +kernel
theorem pickL_odd {α : Type} (xs : List α) (h : xs.length ≤ 16) : pickL (some 1) none 2 xs = (List.range (xs.length / 2)).filterMap fun i => xs[2 * i + 1]? := by
  unfold pickL
  rw [lsIx_odd ⟨xs.length, by omega⟩, List.filterMap_map]
  rfl
theorem asOne_len {a b : List Int} (ha : a.length ≤ 8) (hb : b.length ≤ 8) : (asOne a b).length ≤ 8 := by
  have hl : (sortI (a ++ b)).length = a.length + b.length := by rw [(sortI_perm _).length_eq, List.length_append]
  unfold asOne
  rw [pickL_odd _ (by omega)]
  have := List.length_filterMap_le (fun i => (sortI (a ++ b))[2 * i + 1]?) (List.range ((sortI (a ++ b)).length / 2))
  rw [List.length_range] at this
  omega
/-! blocks, rungs -/
def blk (w : Nat) (xs : List Int) (i : Nat) : List Int := (xs.drop (i * w)).take w
def RG (B : Nat → List Int) : Nat → Nat → List Int
  | 0, i => sortI (B i)
  | h + 1, i => asOne (RG B h i) (RG B h (i + 2 ^ h))
theorem RG_congr {B B' : Nat → List Int} : ∀ (h i i' : Nat), (∀ j, j < 2 ^ h → B (i + j) = B' (i' + j)) → RG B h i = RG B' h i'
  | 0, i, i', e => by
    have := e 0 (by decide)
    simp only [Nat.add_zero] at this
    simp only [RG]
    rw [this]
  | h + 1, i, i', e => by
    simp only [RG]
    have p : 2 ^ (h + 1) = 2 ^ h + 2 ^ h := by rw [Nat.pow_succ]; omega
    rw [RG_congr h i i' fun j hj => e j (by omega), RG_congr h (i + 2 ^ h) (i' + 2 ^ h) fun j hj => by
      rw [Nat.add_assoc, Nat.add_assoc]
      exact e (2 ^ h + j) (by omega)]
theorem RG_len {B : Nat → List Int} (hB : ∀ i, (B i).length ≤ 8) : ∀ h i, (RG B h i).length ≤ 8
  | 0, i => by
    simp only [RG]
    rw [(sortI_perm _).length_eq]
    exact hB i
  | h + 1, i => asOne_len (RG_len hB h i) (RG_len hB h _)
theorem blk_len {w : Nat} (h : w ≤ 8) (xs : List Int) (i : Nat) : (blk w xs i).length ≤ 8 := by
  unfold blk
  rw [List.length_take]
  omega
def bit (m h : Nat) : Prop := m / 2 ^ h % 2 = 1
instance (m h : Nat) : Decidable (bit m h) := inferInstanceAs (Decidable (_ = _))
def top2 (m h : Nat) : Nat := m / 2 ^ (h + 1) * 2 ^ (h + 1)
theorem pow_pos' (h : Nat) : 0 < 2 ^ h := Nat.pow_pos (by decide)
/-- m = top + bit + what is below -/
theorem top_bit {m h : Nat} : top2 m h + m / 2 ^ h % 2 * 2 ^ h ≤ m := by
  unfold top2
  have e1 : m / 2 ^ (h + 1) = m / 2 ^ h / 2 := by rw [Nat.pow_succ, Nat.div_div_eq_div_mul]
  have e2 : m / 2 ^ h = 2 * (m / 2 ^ h / 2) + m / 2 ^ h % 2 := (Nat.div_add_mod _ _).symm
  have e3 : m / 2 ^ h * 2 ^ h ≤ m := Nat.div_mul_le_self _ _
  rw [e1, Nat.pow_succ]
  generalize m / 2 ^ h = c at *
  generalize 2 ^ h = P at *
  have : c / 2 * (P * 2) + c % 2 * P = c * P := by
    rw [show c / 2 * (P * 2) = (2 * (c / 2)) * P by rw [Nat.mul_comm P 2, ← Nat.mul_assoc, Nat.mul_comm (c / 2) 2], ← Nat.add_mul, ← e2]
  omega
theorem bit_top {m h : Nat} (hb : bit m h) : top2 m h + 2 ^ h ≤ m := by
  have := @top_bit m h
  unfold bit at hb
  rw [hb, Nat.one_mul] at this
  exact this
theorem bit_lt {m h k : Nat} (hb : bit m h) (hm : m < 2 ^ k) : h < k := by
  have := bit_top hb
  have : 2 ^ h < 2 ^ k := by omega
  exact (Nat.pow_lt_pow_iff_right (by decide)).mp this
/-- what the rungs are, above j -/
def LkJ (B : Nat → List Int) (m j : Nat) (st : Stp1) : Prop := ∀ h : Nat, klook st (h : Int) = if j ≤ h ∧ bit m h then some ⟨RG B h (top2 m h)⟩ else none
def Lk0 (B : Nat → List Int) (m : Nat) (st : Stp1) : Prop := ∀ h : Nat, klook st (h : Int) = if bit m h then some ⟨RG B h (top2 m h)⟩ else none
structure StK (st : Stp1) : Prop where
  nd : (st.map (·.1)).Nodup
  nn : ∀ q ∈ st, 0 ≤ q.1
theorem klook_drop {κ α : Type} [DecidableEq κ] : ∀ (kv : List (κ × α)) (k j : κ), klook (kdrop kv k) j = if j = k then none else klook kv j
  | [], k, j => by
    show klook [] j = _
    rw [klook_nil]
    by_cases e : j = k
    · rw [if_pos e]
    · rw [if_neg e]
  | q :: kv, k, j => by
    have ih := klook_drop kv k j
    have step : kdrop (q :: kv) k = if q.1 = k then kdrop kv k else q :: kdrop kv k := by
      unfold kdrop
      rw [List.filter_cons]
      by_cases e : q.1 = k
      · rw [if_neg (by simp [e]), if_pos e]
      · rw [if_pos (by simp [e]), if_neg e]
    rw [step]
    by_cases e : q.1 = k
    · rw [if_pos e, ih, klook_cons]
      by_cases e2 : j = k
      · rw [if_pos e2, if_pos e2]
      · rw [if_neg e2, if_neg e2, if_neg fun z => e2 (z.symm.trans e)]
    · rw [if_neg e, klook_cons, ih, klook_cons]
      by_cases e3 : q.1 = j
      · rw [if_pos e3, if_pos e3, if_neg fun z => e (e3.trans z)]
      · rw [if_neg e3, if_neg e3]
theorem kdrop_sub {κ α : Type} [DecidableEq κ] {kv : List (κ × α)} {k : κ} {q : κ × α} (h : q ∈ kdrop kv k) : q ∈ kv := (List.mem_filter.mp h).1
theorem kdrop_nodup {κ α : Type} [DecidableEq κ] {kv : List (κ × α)} {k : κ} (n : (kv.map (·.1)).Nodup) : ((kdrop kv k).map (·.1)).Nodup := n.sublist (List.Sublist.map _ List.filter_sublist)
theorem kdrop_lt {κ α : Type} [DecidableEq κ] {kv : List (κ × α)} {k : κ} {x : α} (h : klook kv k = some x) : (kdrop kv k).length < kv.length := by
  unfold kdrop
  refine Nat.lt_of_le_of_ne (List.length_filter_le _ _) fun e => ?_
  have := List.length_filter_eq_length_iff.mp e (k, x) (klook_mem h)
  simp at this
theorem StK.put {st : Stp1} (h : StK st) {k : Int} {x : Tup Int} (hk : 0 ≤ k) : StK (kput st k x) := ⟨kput_keys_nodup h.nd, fun q hq => (kput_mem hq).elim (h.nn q) fun e => by rw [e]; exact hk⟩
theorem StK.drop {st : Stp1} (h : StK st) (k : Int) : StK (kdrop st k) := ⟨kdrop_nodup h.nd, fun q hq => h.nn q (kdrop_sub hq)⟩
theorem carry_stk : ∀ (f : Nat) {st : Stp1} {h : Int} {r : List Int}, StK st → 0 ≤ h → StK (carry f st h r)
  | 0, st, h, r, k, hh => k.put hh
  | f + 1, st, h, r, k, hh => by
    simp only [carry]
    cases e : klook st h with
    | none => exact k.put hh
    | some t => exact carry_stk f (k.drop h) (by omega)
theorem div_pow {a j h : Nat} (e : j ≤ h) : a / 2 ^ h = a / 2 ^ j / 2 ^ (h - j) := by
  rw [Nat.div_div_eq_div_mul, ← Nat.pow_add, Nat.add_sub_cancel' e]
theorem m_div {m j c : Nat} (hm : m + 1 = 2 ^ j * (c + 1)) : m / 2 ^ j = c ∧ (m + 1) / 2 ^ j = c + 1 := by
  have hp := pow_pos' j
  have e : 2 ^ j * (c + 1) = 2 ^ j * c + 2 ^ j := Nat.mul_succ _ _
  constructor
  · rw [show m = 2 ^ j * c + (2 ^ j - 1) by omega, Nat.mul_add_div hp, Nat.div_eq_of_lt (by omega), Nat.add_zero]
  · rw [hm, Nat.mul_div_cancel_left _ hp]
theorem low_div {m j c h : Nat} (hm : m + 1 = 2 ^ j * (c + 1)) (hj : h < j) : ¬ bit (m + 1) h := by
  unfold bit
  have e : 2 ^ j = 2 ^ h * (2 * 2 ^ (j - h - 1)) := by rw [← Nat.pow_succ', ← Nat.pow_add]; congr 1; omega
  rw [hm, e, Nat.mul_assoc, Nat.mul_div_cancel_left _ (pow_pos' h), Nat.mul_assoc, Nat.mul_mod_right]
  decide
/-- where it ends -/
theorem carry_end {B : Nat → List Int} {m j c : Nat} {st : Stp1} {r : List Int} (hl : LkJ B m j st) (hm : m + 1 = 2 ^ j * (c + 1)) (hr : r = RG B j (m + 1 - 2 ^ j)) (hb : ¬ bit m j) : Lk0 B (m + 1) (kput st (j : Int) ⟨r⟩) := by
  intro h
  obtain ⟨d1, d2⟩ := m_div hm
  have c2 : c % 2 = 0 := by
    have : ¬ (m / 2 ^ j % 2 = 1) := hb
    rw [d1] at this
    omega
  rw [klook_put]
  by_cases e : h = j
  · subst e
    rw [if_pos rfl, if_pos (show bit (m + 1) h from by show (m + 1) / 2 ^ h % 2 = 1; rw [d2]; omega), hr]
    congr 3
    unfold top2
    rw [Nat.pow_succ, ← Nat.div_div_eq_div_mul, d2, show (c + 1) / 2 = c / 2 by omega, hm, Nat.mul_succ, Nat.add_sub_cancel]
    rw [Nat.mul_comm (2 ^ h) 2, ← Nat.mul_assoc, show c / 2 * 2 = c by omega, Nat.mul_comm]
  · rw [if_neg fun z => e (by omega), hl h]
    by_cases lt : h < j
    · rw [if_neg fun z => absurd z.1 (by omega), if_neg (low_div hm lt)]
    · have hj : j + 1 ≤ h := by omega
      have same : ∀ k, j + 1 ≤ k → (m + 1) / 2 ^ k = m / 2 ^ k := fun k hk => by
        rw [div_pow (a := m + 1) (j := j) (h := k) (by omega), div_pow (a := m) (j := j) (h := k) (by omega), d1, d2, show k - j = (k - j - 1) + 1 by omega, Nat.pow_succ', ← Nat.div_div_eq_div_mul, ← Nat.div_div_eq_div_mul, show (c + 1) / 2 = c / 2 by omega]
      have b : bit (m + 1) h ↔ bit m h := by unfold bit; rw [same h hj]
      have t : top2 (m + 1) h = top2 m h := by unfold top2; rw [same (h + 1) (by omega)]
      by_cases q : bit m h
      · rw [if_pos ⟨by omega, q⟩, if_pos (b.mpr q), t]
      · rw [if_neg fun z => q z.2, if_neg fun z => q (b.mp z)]
/-- the carry -/
theorem carry_ok (B : Nat → List Int) (m : Nat) : ∀ (f j c : Nat) (st : Stp1) (r : List Int), LkJ B m j st → m + 1 = 2 ^ j * (c + 1) → r = RG B j (m + 1 - 2 ^ j) → st.length ≤ f → Lk0 B (m + 1) (carry f st (j : Int) r) := by
  intro f
  induction f with
  | zero =>
    intro j c st r hl hm hr hf
    have e0 : st = [] := List.eq_nil_of_length_eq_zero (by omega)
    subst e0
    refine carry_end hl hm hr fun hb => ?_
    have := hl j
    rw [if_pos ⟨Nat.le_refl _, hb⟩] at this
    cases this
  | succ f ih =>
    intro j c st r hl hm hr hf
    by_cases hb : bit m j
    · have e := hl j
      rw [if_pos ⟨Nat.le_refl _, hb⟩] at e
      simp only [carry]
      rw [e]
      obtain ⟨d1, d2⟩ := m_div hm
      have c2 : c % 2 = 1 := by
        have : m / 2 ^ j % 2 = 1 := hb
        rw [d1] at this
        exact this
      have hp := pow_pos' j
      have hm' : m + 1 = 2 ^ (j + 1) * (c / 2 + 1) := by
        rw [hm, Nat.pow_succ, Nat.mul_assoc]
        congr 1
        omega
      have e1 : 2 ^ (j + 1) = 2 ^ j + 2 ^ j := by rw [Nat.pow_succ]; omega
      have ge : 2 ^ (j + 1) ≤ m + 1 := by rw [hm']; exact Nat.le_mul_of_pos_right _ (by omega)
      have tt : top2 m j = m + 1 - 2 ^ (j + 1) := by
        unfold top2
        rw [Nat.pow_succ, ← Nat.div_div_eq_div_mul, d1, ← Nat.pow_succ, hm', Nat.mul_succ, Nat.add_sub_cancel, Nat.mul_comm]
      have := ih (j + 1) (c / 2) (kdrop st (j : Int)) (asOne (RG B j (top2 m j)) r) (fun h => ?_) hm' ?_ (by have := kdrop_lt e; omega)
      · exact this
      · rw [klook_drop, hl h]
        by_cases q : h = j
        · rw [if_pos (by omega), if_neg fun z => absurd z.1 (by omega)]
        · rw [if_neg (by omega)]
          by_cases q2 : j ≤ h ∧ bit m h
          · rw [if_pos q2, if_pos ⟨by omega, q2.2⟩]
          · rw [if_neg q2, if_neg fun z => q2 ⟨by omega, z.2⟩]
      · simp only [RG]
        rw [hr, tt]
        congr 2
        omega
    · have e := hl j
      rw [if_neg fun z => hb z.2] at e
      rw [carry_none e]
      exact carry_end hl hm hr hb
/-- a ladder of size w that was fed xs -/
structure Sok (w : Nat) (xs : List Int) (s : List Int × Stp1) : Prop where
  fr : s.1 = xs.drop (xs.length / w * w)
  k : StK s.2
  lk : Lk0 (blk w xs) (xs.length / w) s.2
theorem sok_nil {w : Nat} (hw : 1 ≤ w) : Sok w [] ([], []) := ⟨by simp, ⟨List.nodup_nil, fun q h => by simp at h⟩, fun h => by
  rw [klook_nil, if_neg]
  unfold bit
  rw [List.length_nil, Nat.zero_div, Nat.zero_div]
  decide⟩
theorem blk_app {w : Nat} {xs : List Int} {n : Int} {i : Nat} (h : i < xs.length / w) : blk w (xs ++ [n]) i = blk w xs i := by
  have h1 : (i + 1) * w ≤ xs.length := Nat.le_trans (Nat.mul_le_mul_right w h) (Nat.div_mul_le_self _ _)
  rw [Nat.succ_mul] at h1
  unfold blk
  rw [List.drop_append_of_le_length (by omega), List.take_append_of_le_length (by rw [List.length_drop]; omega)]
theorem lk_app {w : Nat} {xs : List Int} {n : Int} {st : Stp1} (h : Lk0 (blk w xs) (xs.length / w) st) : Lk0 (blk w (xs ++ [n])) (xs.length / w) st := fun k => by
  rw [h k]
  by_cases b : bit (xs.length / w) k
  · rw [if_pos b, if_pos b]
    have := bit_top b
    rw [RG_congr (B := blk w xs) (B' := blk w (xs ++ [n])) k _ _ fun j hj => (blk_app (by omega)).symm]
  · rw [if_neg b, if_neg b]
theorem sok_feed {w : Nat} {xs : List Int} {s : List Int × Stp1} (hw : 1 ≤ w) (h : Sok w xs s) (n : Int) : Sok w (xs ++ [n]) (feedF w s n) := by
  obtain ⟨hf, hk, hl⟩ := h
  have hlen : (xs ++ [n]).length = xs.length + 1 := by simp
  have hdm : w * (xs.length / w) + xs.length % w = xs.length := Nat.div_add_mod _ _
  have hmod : xs.length % w < w := Nat.mod_lt _ hw
  rw [Nat.mul_comm] at hdm
  have fl : s.1.length = xs.length % w := by rw [hf, List.length_drop]; omega
  have dr : (xs ++ [n]).drop (xs.length / w * w) = s.1 ++ [n] := by rw [List.drop_append_of_le_length (by omega), hf]
  unfold feedF
  by_cases e : (s.1 ++ [n]).length = w
  · rw [if_pos e]
    rw [List.length_append, List.length_singleton, fl] at e
    have md : (xs.length + 1) / w = xs.length / w + 1 := by
      rw [show xs.length + 1 = (xs.length / w + 1) * w by rw [Nat.succ_mul]; omega, Nat.mul_div_cancel _ hw]
    refine ⟨?_, carry_stk _ hk (by decide), ?_⟩
    · rw [hlen, md, Nat.succ_mul]
      exact (List.drop_eq_nil_of_le (by rw [hlen]; omega)).symm
    · rw [hlen, md]
      refine carry_ok (blk w (xs ++ [n])) (xs.length / w) _ 0 (xs.length / w) s.2 _ (fun h => ?_) (by simp) ?_ (Nat.le_refl _)
      · rw [lk_app hl h]
        by_cases b : bit (xs.length / w) h
        · rw [if_pos b, if_pos ⟨Nat.zero_le _, b⟩]
        · rw [if_neg b, if_neg fun z => b z.2]
      · simp only [RG, Nat.pow_zero, Nat.add_sub_cancel]
        unfold blk
        rw [dr, List.take_of_length_le (by rw [List.length_append, List.length_singleton, fl]; omega)]
  · rw [if_neg e]
    rw [List.length_append, List.length_singleton, fl] at e
    have md : (xs.length + 1) / w = xs.length / w := by
      rw [show xs.length + 1 = (xs.length % w + 1) + w * (xs.length / w) by rw [Nat.mul_comm]; omega, Nat.add_mul_div_left _ _ hw, Nat.div_eq_of_lt (by omega), Nat.zero_add]
    refine ⟨?_, hk, ?_⟩
    · rw [hlen, md, dr]
    · rw [hlen, md]
      exact lk_app hl
/-- fed one behind the other -/
def feedL (w : Nat) (xs : List Int) : List Int × Stp1 := xs.foldl (feedF w) ([], [])
theorem sok_feedL {w : Nat} (hw : 1 ≤ w) (xs : List Int) : ∀ (ys : List Int) (s : List Int × Stp1), Sok w ys s → Sok w (ys ++ xs) (xs.foldl (feedF w) s) := by
  induction xs with
  | nil => intro ys s h; rw [List.append_nil]; exact h
  | cons x xs ih =>
    intro ys s h
    have := ih (ys ++ [x]) _ (sok_feed hw h x)
    rw [List.append_assoc] at this
    exact this
/-- what a ladder keeps, small enough -/
structure LOkS (w : Nat) (s : List Int × Stp1) : Prop where
  w1 : 1 ≤ w
  w8 : w ≤ 8
  fl : s.1.length < w
  k : StK s.2
  ks : ∀ q ∈ s.2, q.1 < 40
  ln : ∀ q ∈ s.2, q.2.items.length ≤ 8
theorem lk_key {B : Nat → List Int} {m : Nat} {st : Stp1} (k : StK st) (hl : Lk0 B m st) {q : Int × Tup Int} (hq : q ∈ st) : ∃ h : Nat, q.1 = (h : Int) ∧ bit m h ∧ q.2 = ⟨RG B h (top2 m h)⟩ := by
  obtain ⟨h, e⟩ : ∃ h : Nat, q.1 = (h : Int) := ⟨q.1.toNat, by have := k.nn q hq; omega⟩
  have := klook_memN k.nd q hq
  rw [e, hl h] at this
  by_cases b : bit m h
  · rw [if_pos b] at this
    exact ⟨h, e, b, (Option.some.inj this).symm⟩
  · rw [if_neg b] at this
    cases this
theorem Sok.ok {w : Nat} {xs : List Int} {s : List Int × Stp1} (h : Sok w xs s) (h1 : 1 ≤ w) (h8 : w ≤ 8) (hl : xs.length ≤ 100000) : LOkS w s := by
  have hm : xs.length / w < 2 ^ 40 := Nat.lt_of_le_of_lt (Nat.div_le_self _ _) (by omega)
  refine ⟨h1, h8, ?_, h.k, fun q hq => ?_, fun q hq => ?_⟩
  · rw [h.fr, List.length_drop]
    have := Nat.div_add_mod xs.length w
    have := Nat.mod_lt xs.length h1
    rw [Nat.mul_comm (xs.length / w)]
    omega
  · obtain ⟨k, e, b, _⟩ := lk_key h.k h.lk hq
    have := bit_lt b hm
    omega
  · obtain ⟨k, e, b, e2⟩ := lk_key h.k h.lk hq
    rw [e2]
    exact RG_len (blk_len h8 xs) _ _
/-- rungs, told in order -/
def rungsL (st : Stp1) : Stp1 := (sortI (st.map (·.1))).map fun k => (k, (klook st k).getD ⟨[]⟩)
def hts (m : Nat) : List Nat := (List.range 10).filter fun h => decide (bit m h)
def canon (B : Nat → List Int) (m : Nat) : Stp1 := (hts m).map fun h : Nat => ((h : Int), ⟨RG B h (top2 m h)⟩)
theorem sort_strict {l : List Int} (n : l.Nodup) : (sortI l).Pairwise (· < ·) := by
  have h1 := sortI_pw l
  have h2 : (sortI l).Nodup := (sortI_perm l).nodup_iff.mpr n
  exact (h1.and h2).imp fun {a b} h => by
    have := h.1
    have := h.2
    omega
theorem hts_pw (m : Nat) : (hts m).Pairwise (· < ·) := List.Pairwise.filter _ List.pairwise_lt_range
theorem keys_hts {B : Nat → List Int} {m : Nat} {st : Stp1} (k : StK st) (hl : Lk0 B m st) (hm : m < 1024) : sortI (st.map (·.1)) = (hts m).map fun h : Nat => (h : Int) := by
  refine asc_uniq (sort_strict k.nd) (List.pairwise_map.mpr ((hts_pw m).imp fun {a b} h => by omega)) fun x => ?_
  rw [(sortI_perm _).mem_iff]
  constructor
  · intro hx
    obtain ⟨q, hq, rfl⟩ := List.mem_map.mp hx
    obtain ⟨h, e, b, _⟩ := lk_key k hl hq
    exact List.mem_map.mpr ⟨h, List.mem_filter.mpr ⟨List.mem_range.mpr (bit_lt b hm), decide_eq_true b⟩, e.symm⟩
  · intro hx
    obtain ⟨h, hh, rfl⟩ := List.mem_map.mp hx
    have b : bit m h := of_decide_eq_true (List.mem_filter.mp hh).2
    have := hl h
    rw [if_pos b] at this
    exact List.mem_map.mpr ⟨_, klook_mem this, rfl⟩
theorem rungs_canon {B : Nat → List Int} {m : Nat} {st : Stp1} (k : StK st) (hl : Lk0 B m st) (hm : m < 1024) : rungsL st = canon B m := by
  unfold rungsL canon
  rw [keys_hts k hl hm, List.map_map]
  refine List.map_congr_left fun h hh => ?_
  have b : bit m h := of_decide_eq_true (List.mem_filter.mp hh).2
  have := hl h
  rw [if_pos b] at this
  show ((h : Int), (klook st (h : Int)).getD ⟨[]⟩) = _
  rw [this]
  rfl
theorem canon_keys {B : Nat → List Int} {m : Nat} : (canon B m).map (·.1) = (hts m).map fun h : Nat => (h : Int) := by
  unfold canon
  rw [List.map_map]
  rfl
theorem canon_stk {B : Nat → List Int} {m : Nat} : StK (canon B m) := ⟨by
  rw [canon_keys]
  exact (List.pairwise_map.mpr ((hts_pw m).imp fun {a b} h => by omega) : ((hts m).map fun h : Nat => (h : Int)).Nodup), fun q hq => by
  obtain ⟨h, _, rfl⟩ := List.mem_map.mp hq
  exact Int.natCast_nonneg h⟩
theorem canon_lk {B : Nat → List Int} {m : Nat} (hm : m < 1024) : Lk0 B m (canon B m) := fun h => by
  by_cases b : bit m h
  · rw [if_pos b]
    exact klook_memN canon_stk.nd ((h : Int), ⟨RG B h (top2 m h)⟩) (List.mem_map.mpr ⟨h, List.mem_filter.mpr ⟨List.mem_range.mpr (bit_lt b hm), decide_eq_true b⟩, rfl⟩)
  · rw [if_neg b, klook_none, canon_keys]
    intro hx
    obtain ⟨k, hk, e⟩ := List.mem_map.mp hx
    have : k = h := by omega
    exact b (this ▸ of_decide_eq_true (List.mem_filter.mp hk).2)
theorem lk_same {B : Nat → List Int} {m : Nat} {st st' : Stp1} (k : StK st) (k' : StK st') (h : Lk0 B m st) (h' : Lk0 B m st') (x : Int) : klook st x = klook st' x := by
  by_cases hx : 0 ≤ x
  · obtain ⟨n, rfl⟩ : ∃ n : Nat, x = (n : Int) := ⟨x.toNat, by omega⟩
    rw [h n, h' n]
  · have no : ∀ {st : Stp1}, StK st → klook st x = none := fun k => klook_none.mpr fun z => by
      obtain ⟨q, hq, e⟩ := List.mem_map.mp z
      have := k.nn q hq
      exact hx (by rw [← e]; exact this)
    rw [no k, no k']
theorem perm_sumZ {l m : List Int} (h : l.Perm m) : l.sum = m.sum := by
  induction h with
  | nil => rfl
  | cons x _ ih => rw [List.sum_cons, List.sum_cons, ih]
  | swap x y l => simp only [List.sum_cons]; omega
  | trans _ _ a b => exact a.trans b
/-- how many were fed -/
def fedS (w : Nat) (s : List Int × Stp1) : Int := (s.1.length : Int) + (s.2.map fun q => (w : Int) * (2 : Int) ^ q.1.toNat).sum
theorem bits_sum : ∀ (n m : Nat), (((List.range n).filter fun h => decide (bit m h)).map fun h => 2 ^ h).sum = m % 2 ^ n
  | 0, m => by rw [Nat.pow_zero, Nat.mod_one]; rfl
  | n + 1, m => by
    rw [List.range_succ, List.filter_append, List.map_append, List.sum_append, bits_sum n m, Nat.mod_pow_succ]
    by_cases b : bit m n
    · rw [List.filter_cons, if_pos (decide_eq_true b)]
      have : m / 2 ^ n % 2 = 1 := b
      rw [this]
      simp
    · rw [List.filter_cons, if_neg (by simpa using b)]
      have h0 : m / 2 ^ n % 2 = 0 := by
        have : ¬ (m / 2 ^ n % 2 = 1) := b
        omega
      rw [h0]
      simp
theorem wsum_nat (w : Nat) : ∀ l : List Nat, (l.map ((fun k : Int => (w : Int) * (2 : Int) ^ k.toNat) ∘ fun h : Nat => (h : Int))).sum = ((w * (l.map fun h => 2 ^ h).sum : Nat) : Int)
  | [] => by simp
  | a :: l => by
    rw [List.map_cons, List.sum_cons, wsum_nat w l, List.map_cons, List.sum_cons, Nat.mul_add]
    show (w : Int) * 2 ^ ((a : Int)).toNat + _ = _
    rw [Int.toNat_natCast]
    push_cast
    rfl
theorem fed_len {w : Nat} {xs : List Int} {s : List Int × Stp1} (h : Sok w xs s) (h1 : 1 ≤ w) (hm : xs.length / w < 1024) : fedS w s = (xs.length : Int) := by
  have hp : (s.2.map (·.1)).Perm ((hts (xs.length / w)).map fun h : Nat => (h : Int)) := by
    rw [← keys_hts h.k h.lk hm]
    exact (sortI_perm _).symm
  have e : (s.2.map fun q => (w : Int) * (2 : Int) ^ q.1.toNat).sum = ((w * (xs.length / w) : Nat) : Int) := by
    rw [show (s.2.map fun q => (w : Int) * (2 : Int) ^ q.1.toNat) = ((s.2.map (·.1)).map fun k : Int => (w : Int) * (2 : Int) ^ k.toNat) by rw [List.map_map]; rfl, perm_sumZ (hp.map _), List.map_map]
    have bs := bits_sum 10 (xs.length / w)
    rw [Nat.mod_eq_of_lt (show xs.length / w < 2 ^ 10 from hm)] at bs
    refine (wsum_nat w _).trans ?_
    unfold hts
    rw [bs]
  unfold fedS
  rw [e, h.fr, List.length_drop]
  have := Nat.div_mul_le_self xs.length w
  have c : w * (xs.length / w) = xs.length / w * w := Nat.mul_comm _ _
  omega
end B
/-! the class Ladder -/
namespace B
open PySem L2
open PySem.W (Tup T3 T4 Datum DatumOrd)
open Evl (Ex)
structure LadderC (K : Fg) (C : Addr) : Prop where
  i : ClsI K C
  n1 : NoAttr K C "wide"
  n2 : NoAttr K C "free"
  n3 : NoAttr K C "steps"
theorem kwf : ¬ (("wide" : Str) = "free") := by decide +kernel
theorem kws : ¬ (("wide" : Str) = "steps") := by decide +kernel
theorem kfs : ¬ (("free" : Str) = "steps") := by decide +kernel
def lf (w : Int) (f s : Addr) : List (Str × V) := putF "steps" (.ref s) (putF "free" (.ref f) (putF "wide" (.int w) []))
section
variable {w : Int} {f s : Addr}
theorem lf_w : (lf w f s).lookup ("wide" : Str) = some (.int w) := by
  unfold lf
  rw [lookup_putF, if_neg kws, lookup_putF, if_neg kwf, lookup_putF, if_pos rfl]
theorem lf_f : (lf w f s).lookup ("free" : Str) = some (.ref f) := by
  unfold lf
  rw [lookup_putF, if_neg kfs, lookup_putF, if_pos rfl]
theorem lf_s : (lf w f s).lookup ("steps" : Str) = some (.ref s) := by
  unfold lf
  rw [lookup_putF, if_pos rfl]
theorem lf_no {m : Str} (h1 : ¬ m = "wide") (h2 : ¬ m = "free") (h3 : ¬ m = "steps") : (lf w f s).lookup m = none := by
  unfold lf
  rw [lookup_putF, if_neg h3, lookup_putF, if_neg h2, lookup_putF, if_neg h1]
  all_goals rfl
theorem lf_eq : lf w f s = ([(("wide" : Str), .int w), (("free" : Str), .ref f), (("steps" : Str), .ref s)] : List (Str × V)) := by
  unfold lf
  simp only [putF, if_neg kwf, if_neg kws, if_neg kfs]
theorem lf_putF {g : Addr} : putF "free" (.ref g) (lf w f s) = lf w g s := by
  rw [lf_eq, lf_eq]
  simp only [putF, if_neg kwf, if_pos]
theorem lf_putS {g : Addr} : putF "steps" (.ref g) (lf w f s) = lf w f g := by
  rw [lf_eq, lf_eq]
  simp only [putF, if_neg kws, if_neg kfs, if_pos]
theorem lf_len : (lf w f s).length < 1000 := by
  rw [lf_eq]
  show 3 < 1000
  decide
end
theorem putF_len1 {f : Str} {v : V} : ∀ fs : List (Str × V), (putF f v fs).length ≤ fs.length + 1
  | [] => Nat.le_refl _
  | (g, u) :: fs => by
    unfold putF
    split
    · simp
    · have := putF_len1 (f := f) (v := v) fs
      simp only [List.length_cons]
      omega
theorem was_noneL {S : List Addr} {W W' : Wd} {p : Addr} (g : Md S W W') (f : W'.H p = none) : W.H p = none := by
  cases q : W.H p with
  | none => rfl
  | some o => exact absurd f (g.d p (by rw [q]; exact fun z => by cases z))
theorem s_fldQ {K : Fg} {D : Ends} {σ : SS} {W : Wd} {tv : TE} {P : V → Wd → Prop} {x dx C : Addr} {f : Str} {fs : List (Str × V)} {i : Nat} (c : Cls K C) (n : NoAttr K C f) (hd : σ[i]? = some (some (.ref x))) (hb : W.B x = none) (hh : W.H x = some (.ins C dx fs)) (hl : fs.length < 1000) (hv : EvP pur tv σ W P)
    (q : ∀ v W1 W', Grow W W1 → P v W1 → Md [x] W1 W' → On W1 W' → W'.B x = none → W'.H x = some (.ins C dx (putF f v fs)) → D.nx σ W'.H) : sFld K (tVar i) tv f D σ W.H := hv W (.start trivial) _ fun v W1 g1 pv => by
  have m := g1.pure.mut (by simp) hh hb
  exact ⟨_, hd, x, C, dx, fs, rfl, m.1, c, n, hl, q v W1 (W1.put x _ m.2) g1.pure pv (md_put m.2) (md_put m.2).on m.2 upd_same⟩
theorem q_fldQ {K : Fg} {D : Ends} {tz : TS} {σ : SS} {W : Wd} {tv : TE} {P : V → Wd → Prop} {x dx C : Addr} {f : Str} {fs : List (Str × V)} {i : Nat} (c : Cls K C) (n : NoAttr K C f) (hd : σ[i]? = some (some (.ref x))) (hb : W.B x = none) (hh : W.H x = some (.ins C dx fs)) (hl : fs.length < 1000) (hv : EvP pur tv σ W P)
    (q : ∀ v W1 W', Grow W W1 → P v W1 → Md [x] W1 W' → On W1 W' → W'.B x = none → W'.H x = some (.ins C dx (putF f v fs)) → tz D σ W'.H) : tSeq (sFld K (tVar i) tv f) tz D σ W.H := s_fldQ (D := { D with nx := tz D }) c n hd hb hh hl hv q
/-- what may have changed, and what is new -/
def NewL (W : Wd) (i i' : Addr) : Prop := i' = i ∨ W.H i' = none
/-- a ladder stands at x, what is loose at f, its rungs at s -/
structure LadAt (K : Fg) (C : Addr) (W : Wd) (x f s : Addr) (w : Nat) (S : List Int × Stp1) : Prop where
  b : W.B x = none
  ex : ∃ dx, W.H x = some (.ins C dx (lf w f s))
  mf : LMut K W f S.1
  ms : DMut K W s S.2
  ok : LOkS w S
section
variable {K : Fg} {C : Addr} {W W' : Wd} {x f s y f' s' : Addr} {w w' : Nat} {S S' : List Int × Stp1} {L : List Addr} {ε : Ef} {σ : SS} {j : Nat}
theorem LadAt.nt (r : LadAt K C W x f s w S) : Nt W.H x := by
  obtain ⟨dx, h⟩ := r.ex
  exact ⟨_, h, fun _ z => by cases z⟩
theorem LadAt.g (r : LadAt K C W x f s w S) (g : Md L W W') (hx : x ∉ L) (hf : f ∉ L) (hs : s ∉ L) : LadAt K C W' x f s w S := by
  obtain ⟨dx, h⟩ := r.ex
  have m := g.mut hx h r.b
  exact ⟨m.2, ⟨dx, m.1⟩, r.mf.g g hf, r.ms.g g hs, r.ok⟩
theorem LadAt.gr (r : LadAt K C W x f s w S) (g : Grow W W') : LadAt K C W' x f s w S := r.g g (by simp) (by simp) (by simp)
theorem LadAt.xf (r : LadAt K C W x f s w S) : x ≠ f ∧ x ≠ s ∧ f ≠ s := by
  obtain ⟨dx, h⟩ := r.ex
  obtain ⟨vs, e, _⟩ := r.mf.ex
  obtain ⟨ks, e', _⟩ := r.ms.ex
  exact ⟨fun z => by (rw [z, e] at h; cases h), fun z => by (rw [z, e'] at h; cases h), fun z => by (rw [z, e'] at e; cases e)⟩
theorem LadAt.xx (r : LadAt K C W x f s w S) (q : LadAt K C W y f' s' w' S') : x ≠ f' ∧ x ≠ s' ∧ f ≠ s' ∧ f ≠ y ∧ s ≠ y ∧ s ≠ f' := by
  obtain ⟨dx, h⟩ := r.ex
  obtain ⟨vs, e, _⟩ := r.mf.ex
  obtain ⟨ks, e', _⟩ := r.ms.ex
  obtain ⟨dx', h'⟩ := q.ex
  obtain ⟨vs', d, _⟩ := q.mf.ex
  obtain ⟨ks', d', _⟩ := q.ms.ex
  exact ⟨fun z => by (rw [z, d] at h; cases h), fun z => by (rw [z, d'] at h; cases h), fun z => by (rw [z, d'] at e; cases e), fun z => by (rw [z, h'] at e; cases e), fun z => by (rw [z, h'] at e'; cases e'), fun z => by (rw [z, d] at e'; cases e')⟩
/-- another ladder changes -/
theorem LadAt.off (r : LadAt K C W x f s w S) (q : LadAt K C W y f' s' w' S') (h : x ≠ y ∧ f ≠ f' ∧ s ≠ s') (g : Md [y, f', s'] W W') : LadAt K C W' x f s w S := by
  obtain ⟨h1, h2, h3, h4, h5, h6⟩ := r.xx q
  exact r.g g (by simp [h.1, h1, h2]) (by simp [h4, h.2.1, h3]) (by simp [h5, h6, h.2.2])
theorem ev_lwide (c : LadderC K C) (hd : σ[j]? = some (some (.ref x))) (r : LadAt K C W x f s w S) : EvR pur K (tFld K (tVar j) "wide") σ W (w : Int) := by
  obtain ⟨dx, h⟩ := r.ex
  exact ev_fld c.i.cl c.n1 hd r.b h (by simp [pur]) lf_w rfl
theorem ev_lfree (c : LadderC K C) (hd : σ[j]? = some (some (.ref x))) (r : LadAt K C W x f s w S) : EvR pur K (tFld K (tVar j) "free") σ W (Raw.mk (.ref f)) := by
  obtain ⟨dx, h⟩ := r.ex
  exact ev_fld c.i.cl c.n2 hd r.b h (by simp [pur]) lf_f rfl
theorem ev_lsteps (c : LadderC K C) (hd : σ[j]? = some (some (.ref x))) (r : LadAt K C W x f s w S) : EvR pur K (tFld K (tVar j) "steps") σ W (Raw.mk (.ref s)) := by
  obtain ⟨dx, h⟩ := r.ex
  exact ev_fld c.i.cl c.n3 hd r.b h (by simp [pur]) lf_s rfl
/-- a method of a ladder that leaves all as it is -/
theorem ep_lmeth {R : V → Wd → Prop} {te : TE} {m : Str} {sp : Sp} (hd : EvR pur K te σ W (Raw.mk (.ref x))) (r : LadAt K C W x f s w S) (hm : ¬ m = "wide" ∧ ¬ m = "free" ∧ ¬ m = "steps")
    (hs : ∀ W1, LadAt K C W1 x f s w S → ∀ Q : VK, (∀ u W2, Grow W1 W2 → R u W2 → Q u W2.H) → sp [.ref x] W1.H Q E0) : EvP pur (tMeth C m sp [] E0 te tNil) σ W R := fun W1 g1 Q k => hd W1 g1 _ fun v W2 g2 e => by
  have r2 := r.gr (g1.trans g2).pure
  obtain ⟨dx, h⟩ := r2.ex
  exact ⟨x, dx, _, by rw [show v = V.ref x from e], h, lf_no hm.1 hm.2.1 hm.2.2, by rw [show v = V.ref x from e]; exact hs W2 r2 Q fun u W3 g3 hr => k u W3 (g2.trans (.of g3)) hr⟩
end
/-! things of any kind -/
def numB (l m : Int) : PyData → Bool
  | .int n => decide (l ≤ n) && decide (n ≤ m)
  | _ => false
def dataI : PyData → Bool
  | .int _ | .bool _ => true
  | _ => false
def dataB : PyData → Bool
  | .bool _ => true
  | _ => false
theorem dcls_int (d : PyData) : kitB (dcls d) "int" = some (dataI d) := by cases d <;> first | exact (by decide +kernel : kitB "int" "int" = some true) | exact (by decide +kernel : kitB "bool" "int" = some true) | exact (by decide +kernel : kitB "NoneType" "int" = some false) | exact (by decide +kernel : kitB "str" "int" = some false) | exact (by decide +kernel : kitB "tuple" "int" = some false) | exact (by decide +kernel : kitB "list" "int" = some false) | exact (by decide +kernel : kitB "dict" "int" = some false)
theorem dcls_bool (d : PyData) : kitB (dcls d) "bool" = some (dataB d) := by cases d <;> first | exact (by decide +kernel : kitB "int" "bool" = some false) | exact (by decide +kernel : kitB "bool" "bool" = some true) | exact (by decide +kernel : kitB "NoneType" "bool" = some false) | exact (by decide +kernel : kitB "str" "bool" = some false) | exact (by decide +kernel : kitB "tuple" "bool" = some false) | exact (by decide +kernel : kitB "list" "bool" = some false) | exact (by decide +kernel : kitB "dict" "bool" = some false)
theorem dt_int {K : Fg} {H : Hp} {v : V} {n : Int} (h : rep K H v (PyData.int n)) : v = .int n := by
  cases h with
  | pl h _ => cases h; rfl
theorem ev_numB {K : Fg} {W : Wd} {σ : SS} {i : Nat} {v : V} {d : PyData} {l m : Int} (hd : σ[i]? = some (some v)) (rd : rep K W.B v d) :
    EvR pur K (tAndV (tCB (rIsi K) (tCons (tVar i) (tCons (tC (.ty "int")) tNil))) (tAndV (tNotV (tCB (rIsi K) (tCons (tVar i) (tCons (tC (.ty "bool")) tNil)))) (tChain oLe oLe (tC (.int l)) (tVar i) (tC (.int m))))) σ W (numB l m d) := by
  refine (ev_andV (a := dataI d) (b := !dataB d && numB l m d) (ev_cb2 (ev_var hd rd) ev_raw (rc_isD (dcls_int d))) fun hI => ev_andV (a := !dataB d) (b := numB l m d) (ev_notV (ev_cb2 (ev_var hd rd) ev_raw (rc_isD (dcls_bool d)))) fun hB => ?_).is ?_
  · cases d with
    | int n => exact ev_chain ev_int (ev_var (x := n) hd (dt_int rd)) ev_int ro_B0 ro_B0
    | bool b => cases hB
    | _ => cases hI
  · cases d <;> rfl
def sp_is_number (K : Fg) : Sp := fun vs H Q _ => ∃ (W : Wd) (v : V) (d : PyData), W.H = H ∧ vs = [v] ∧ rep K W.B v d ∧ ∀ W', Grow W W' → Q (.bl (numB 0 1000000 d)) W'.H
theorem len_is_number {K : Fg} {vs : List V} {H : Hp} {Q : VK} {E : XK} (h : sp_is_number K vs H Q E) : vs.length = ["thing"].length := by
  obtain ⟨W, v, d, _, rfl, _⟩ := h
  rfl
/-- is_number: the slots 0 thing -/
abbrev n_is_number : List Str := ["thing"]
def t_is_number (K : Fg) : TS := (tRet (tAndV (tCB (rIsi K) (tCons (tVar 0) (tCons (tC (.ty "int")) tNil))) (tAndV (tNotV (tCB (rIsi K) (tCons (tVar 0) (tCons (tC (.ty "bool")) tNil)))) (tChain oLe oLe (tC (.int 0)) (tVar 0) (tC (.int 1000000))))))
def sp_as_one (K : Fg) : Sp := fun vs H Q _ => ∃ (W : Wd) (v u : V) (a b : Tup Int), W.H = H ∧ vs = [v, u] ∧ rep K W.B v a ∧ rep K W.B u b ∧ a.items.length ≤ 8 ∧ b.items.length ≤ 8 ∧ ∀ z W', Grow W W' → rep K W'.B z (Tup.mk (asOne a.items b.items)) → Q z W'.H
theorem len_as_one {K : Fg} {vs : List V} {H : Hp} {Q : VK} {E : XK} (h : sp_as_one K vs H Q E) : vs.length = ["one", "other"].length := by
  obtain ⟨W, v, u, a, b, _, rfl, _⟩ := h
  rfl
/-- as_one: the slots 0 one, 1 other -/
abbrev n_as_one : List Str := ["one", "other"]
def t_as_one (K : Fg) : TS := (tRet (tCB (rTupleO K) (tCons (tLstStep K (tCB (rSortedIT K) (tCons (tOp (rCatA K) (tVar 0) (tVar 1)) tNil)) (some 1) none 2) tNil)))
def sp_Ladder___init__ (K : Fg) (C : Addr) : Sp := fun vs H Q E => (∃ (W : Wd) (x dx : Addr) (w : Nat), W.H = H ∧ vs = [.ref x, .int w] ∧ W.B x = none ∧ W.H x = some (.ins C dx []) ∧ 1 ≤ w ∧ w ≤ 8 ∧
    ∀ W' f s, Md [x] W W' → LadAt K C W' x f s w ([], []) → W.H f = none → W.H s = none → Q .non W'.H) ∨
  (∃ (W : Wd) (x u : V) (d : PyData), W.H = H ∧ vs = [x, u] ∧ rep K W.B u d ∧ numB 1 8 d = false ∧ ∀ W', Grow W W' → E (.ref (cErr K "NoSize")) none W'.H)
theorem len_Ladder___init__ {K : Fg} {C : Addr} {vs : List V} {H : Hp} {Q : VK} {E : XK} (h : sp_Ladder___init__ K C vs H Q E) : vs.length = ["self", "size"].length := by
  rcases h with ⟨W, x, dx, w, _, rfl, _⟩ | ⟨W, x, u, d, _, rfl, _⟩ <;> rfl
/-- Ladder.__init__: the slots 0 self, 1 size -/
abbrev n_Ladder___init__ : List Str := ["self", "size"]
def t_Ladder___init__ (K : Fg) (c_Ladder : Addr) (E : XK) : TS := (tSeq (tIfS (tOr (tNot (tB (tCB (rIsi K) (tCons (tVar 1) (tCons (tC (.ty "int")) tNil))))) (tOr (tB (tCB (rIsi K) (tCons (tVar 1) (tCons (tC (.ty "bool")) tNil)))) (tNot (tTest (tChain oLe oLe (tC (.int 1)) (tVar 1) (tC (.int 8))))))) (BX.tRaiseO (cErr K "NoSize") E) tNext)
  (tSeq (sFld K (tVar 0) (tVar 1) "wide")
  (tSeq (sFld K (tVar 0) (tLst tNil) "free")
  (sFld K (tVar 0) tDNewK "steps"))))
def sp_Ladder_size (K : Fg) (C : Addr) : Sp := fun vs H Q _ => ∃ (W : Wd) (x f s : Addr) (w : Nat) (S : List Int × Stp1), W.H = H ∧ vs = [.ref x] ∧ LadAt K C W x f s w S ∧ ∀ W', Grow W W' → Q (.int w) W'.H
theorem len_Ladder_size {K : Fg} {C : Addr} {vs : List V} {H : Hp} {Q : VK} {E : XK} (h : sp_Ladder_size K C vs H Q E) : vs.length = ["self"].length := by
  obtain ⟨W, x, f, s, w, S, _, rfl, _⟩ := h
  rfl
/-- Ladder.size: the slots 0 self -/
abbrev n_Ladder_size : List Str := ["self"]
def t_Ladder_size (K : Fg) (c_Ladder : Addr) : TS := (tRet (tFld K (tVar 0) "wide"))
def sp_Ladder_loose (K : Fg) (C : Addr) : Sp := fun vs H Q _ => ∃ (W : Wd) (x f s : Addr) (w : Nat) (dx : Addr) (fr : List Int), W.H = H ∧ vs = [.ref x] ∧ W.B x = none ∧ W.H x = some (.ins C dx (lf w f s)) ∧ LMut K W f fr ∧ ∀ v W', Grow W W' → rep K W'.B v (Tup.mk (sortI fr)) → Q v W'.H
theorem len_Ladder_loose {K : Fg} {C : Addr} {vs : List V} {H : Hp} {Q : VK} {E : XK} (h : sp_Ladder_loose K C vs H Q E) : vs.length = ["self"].length := by
  obtain ⟨W, x, f, s, w, dx, fr, _, rfl, _⟩ := h
  rfl
/-- Ladder.loose: the slots 0 self -/
abbrev n_Ladder_loose : List Str := ["self"]
def t_Ladder_loose (K : Fg) (c_Ladder : Addr) : TS := (tRet (tCB (rTupleO K) (tCons (tCB (rSortedI K) (tCons (tFld K (tVar 0) "free") tNil)) tNil)))
def sp_Ladder_rungs (K : Fg) (C : Addr) : Sp := fun vs H Q _ => ∃ (W : Wd) (x f s : Addr) (w : Nat) (S : List Int × Stp1), W.H = H ∧ vs = [.ref x] ∧ LadAt K C W x f s w S ∧ ∀ p W', Grow W W' → W.H p = none → DMut K W' p (rungsL S.2) → Q (.ref p) W'.H
theorem len_Ladder_rungs {K : Fg} {C : Addr} {vs : List V} {H : Hp} {Q : VK} {E : XK} (h : sp_Ladder_rungs K C vs H Q E) : vs.length = ["self"].length := by
  obtain ⟨W, x, f, s, w, S, _, rfl, _⟩ := h
  rfl
/-- Ladder.rungs: the slots 0 self, 1 height -/
abbrev n_Ladder_rungs : List Str := ["self", "height"]
def t_Ladder_rungs (K : Fg) (c_Ladder : Addr) : TS := (tRet (tDc (iList K (tCB rSortedDI (tCons (tFld K (tVar 0) "steps") tNil))) (gName 1) tYes (tVar 1) (tDGet (tFld K (tVar 0) "steps") (tVar 1)) [1]))
def sp_Ladder_fed (K : Fg) (C : Addr) : Sp := fun vs H Q _ => ∃ (W : Wd) (x f s : Addr) (w : Nat) (S : List Int × Stp1), W.H = H ∧ vs = [.ref x] ∧ LadAt K C W x f s w S ∧ ∀ W', Grow W W' → Q (.int (fedS w S)) W'.H
theorem len_Ladder_fed {K : Fg} {C : Addr} {vs : List V} {H : Hp} {Q : VK} {E : XK} (h : sp_Ladder_fed K C vs H Q E) : vs.length = ["self"].length := by
  obtain ⟨W, x, f, s, w, S, _, rfl, _⟩ := h
  rfl
/-- Ladder.fed: the slots 0 self, 1 height -/
abbrev n_Ladder_fed : List Str := ["self", "height"]
def t_Ladder_fed (K : Fg) (c_Ladder : Addr) : TS := (tRet (tOp oAdd (tCB (rLen K) (tCons (tFld K (tVar 0) "free") tNil)) (tCB (rSum K) (tCons (tLockE (tLc (iKeys (tFld K (tVar 0) "steps")) (gName 1) tYes (tOp oShl (tFld K (tVar 0) "wide") (tVar 1)) [1])) tNil))))
def sp_Ladder_twin (K : Fg) (C : Addr) : Sp := fun vs H Q _ => ∃ (W : Wd) (x f s : Addr) (w : Nat) (S : List Int × Stp1), W.H = H ∧ vs = [.ref x] ∧ LadAt K C W x f s w S ∧ ∀ y f' s' W', Grow W W' → LadAt K C W' y f' s' w S → W.H y = none → W.H f' = none → W.H s' = none → Q (.ref y) W'.H
theorem len_Ladder_twin {K : Fg} {C : Addr} {vs : List V} {H : Hp} {Q : VK} {E : XK} (h : sp_Ladder_twin K C vs H Q E) : vs.length = ["self"].length := by
  obtain ⟨W, x, f, s, w, S, _, rfl, _⟩ := h
  rfl
/-- Ladder.twin: the slots 0 self, 1 found -/
abbrev n_Ladder_twin : List Str := ["self", "found"]
def t_Ladder_twin (K : Fg) (c_Ladder : Addr) : TS := (tSeq (tAsg (tMake c_Ladder (sp_Ladder___init__ K c_Ladder) [] E0 (tCons (tFld K (tVar 0) "wide") tNil)) (gName 1))
  (tSeq (sFld K (tVar 1) (tCB (rListO K) (tCons (tFld K (tVar 0) "free") tNil)) "free")
  (tSeq (sFld K (tVar 1) (tCB rDictC (tCons (tFld K (tVar 0) "steps") tNil)) "steps")
  (tRet (tVar 1)))))
def eqS (w : Nat) (S : List Int × Stp1) (w' : Nat) (S' : List Int × Stp1) : Bool := decide ((w : Int) = (w' : Int)) && (decide (sortI S.1 = sortI S'.1) && deq S.2 S'.2)
def sp_Ladder___eq__ (K : Fg) (C : Addr) : Sp := fun vs H Q _ => (∃ (W : Wd) (x f s y f' s' : Addr) (w w' : Nat) (S S' : List Int × Stp1), W.H = H ∧ vs = [.ref x, .ref y] ∧ LadAt K C W x f s w S ∧ LadAt K C W y f' s' w' S' ∧ (s = s' → deq S.2 S'.2 = true) ∧ ∀ W', Grow W W' → Q (.bl (eqS w S w' S')) W'.H) ∨
  (∃ (W : Wd) (x u : V), W.H = H ∧ vs = [x, u] ∧ KdOf K C u W ∧ ∀ W', Grow W W' → Q (.bl false) W'.H)
theorem len_Ladder___eq__ {K : Fg} {C : Addr} {vs : List V} {H : Hp} {Q : VK} {E : XK} (h : sp_Ladder___eq__ K C vs H Q E) : vs.length = ["self", "other"].length := by
  rcases h with ⟨W, x, f, s, y, f', s', w, w', S, S', _, rfl, _⟩ | ⟨W, x, u, _, rfl, _⟩ <;> rfl
/-- Ladder.__eq__: the slots 0 self, 1 other -/
abbrev n_Ladder___eq__ : List Str := ["self", "other"]
def t_Ladder___eq__ (K : Fg) (c_Ladder : Addr) : TS := (tSeq (tIfS (tNot (tB (tCB (rIsi K) (tCons (tVar 1) (tCons (tC (.ref c_Ladder)) tNil))))) (tRet (tC (.bl false))) tNext)
  (tRet (tOp (rEqQ K) (tTup (tCons (tFld K (tVar 0) "wide") (tCons (tMeth c_Ladder "loose" (sp_Ladder_loose K c_Ladder) [] E0 (tVar 0) tNil) (tCons (tFld K (tVar 0) "steps") tNil)))) (tTup (tCons (tFld K (tVar 1) "wide") (tCons (tMeth c_Ladder "loose" (sp_Ladder_loose K c_Ladder) [] E0 (tVar 1) tNil) (tCons (tFld K (tVar 1) "steps") tNil)))))))
def sp_Ladder_feed (K : Fg) (C : Addr) : Sp := fun vs H Q E => (∃ (W : Wd) (x f s : Addr) (w : Nat) (S : List Int × Stp1) (n : Int), W.H = H ∧ vs = [.ref x, .int n] ∧ LadAt K C W x f s w S ∧ 0 ≤ n ∧ n ≤ 1000000 ∧ LOkS w (feedF w S n) ∧
    ∀ W' f', Md [x, f, s] W W' → LadAt K C W' x f' s w (feedF w S n) → NewL W f f' → Q .non W'.H) ∨
  (∃ (W : Wd) (x u : V) (d : PyData), W.H = H ∧ vs = [x, u] ∧ rep K W.B u d ∧ numB 0 1000000 d = false ∧ ∀ W', Grow W W' → E (.ref (cErr K "NoNumber")) none W'.H)
theorem len_Ladder_feed {K : Fg} {C : Addr} {vs : List V} {H : Hp} {Q : VK} {E : XK} (h : sp_Ladder_feed K C vs H Q E) : vs.length = ["self", "number"].length := by
  rcases h with ⟨W, x, f, s, w, S, n, _, rfl, _⟩ | ⟨W, x, u, d, _, rfl, _⟩ <;> rfl
/-- Ladder.feed: the slots 0 self, 1 number, 2 height, 3 rung -/
abbrev n_Ladder_feed : List Str := ["self", "number", "height", "rung"]
def t_Ladder_feed (K : Fg) (c_Ladder : Addr) (E : XK) : TS := (tSeq (tIfS (tNot (tB (tCall (sp_is_number K) [] E0 (tCons (tVar 1) tNil)))) (BX.tRaiseO (cErr K "NoNumber") E) tNext)
  (tSeq (tDrop (tBM K "list" rAppend (tFld K (tVar 0) "free") (tCons (tVar 1) tNil)))
  (tIfS (tTest (tOp rEq (tCB (rLen K) (tCons (tFld K (tVar 0) "free") tNil)) (tFld K (tVar 0) "wide"))) (tSeq (tPar 2 3 (tCons (tC (.int 0)) (tCons (tMeth c_Ladder "loose" (sp_Ladder_loose K c_Ladder) [] E0 (tVar 0) tNil) tNil)))
  (tSeq (sFld K (tVar 0) (tLst tNil) "free")
  (tSeq (tWhile (tB (tDIn (tVar 2) (tFld K (tVar 0) "steps")))
  (tSeq (tAsg (tCall (sp_as_one K) [] E0 (tCons (tDPop1 (tFld K (tVar 0) "steps") (tVar 2)) (tCons (tVar 3) tNil))) (gName 3))
  (tAug 2 (tC (.int 1)) (ipI fun i j => i + j))))
  (sDPut (tFld K (tVar 0) "steps") (tVar 2) (tVar 3))))) tNext)))
end B
set_option maxHeartbeats 8000000
/-! the class Ladder: what its methods do -/
namespace B
open PySem L2
open PySem.W (Tup T3 T4 Datum DatumOrd)
open Evl (Ex)
section
variable {K : Fg} {C : Addr} {W W' : Wd} {x f s : Addr} {w : Nat} {S : List Int × Stp1} {ε : Ef} {σ : SS} {te td : TE} {j : Nat} {α : Type} [Py α]
/-- a list that may change, read -/
theorem ev_lenLE {d : Addr} {xs : List α} (hd : EvR ε K te σ W (Raw.mk (.ref d))) (m : ∀ W', Stp ε W W' → LMut K W' d xs) : EvR ε K (tCB (rLen K) (tCons te tNil)) σ W (xs.length : Int) := fun W1 g1 Q k => hd W1 g1 _ fun v W2 g2 e => by
  obtain ⟨vs, h, r⟩ := (m W2 (g1.trans g2)).ex
  exact ⟨d, vs, by rw [show v = V.ref d from e], .inl (SqL.of h), k _ W2 g2 (by rw [Reps.len r]; rfl)⟩
theorem ev_sortLE {d : Addr} {xs : List Int} (hd : EvR ε K te σ W (Raw.mk (.ref d))) (m : ∀ W', Stp ε W W' → LMut K W' d xs) : EvR ε K (tCB (rSortedI K) (tCons te tNil)) σ W (sortI xs) := fun W1 g1 Q k => hd W1 g1 _ fun v W2 g2 e => by
  obtain ⟨vs, h, r⟩ := (m W2 (g1.trans g2)).ex
  refine ⟨d, xs, by rw [show v = V.ref d from e], by rw [← reps_int r]; exact SqL.of h, fun ys p h1 h2 hp => ?_⟩
  rw [sortI_is h1 h2]
  exact k _ (W2.add p _) (g2.and (W2.grow_add hp)) ⟨p, _, rfl, upd_same, int_reps _⟩
theorem en_listLE {d : Addr} {xs : List α} (hd : EvR ε K te σ W (Raw.mk (.ref d))) (m : ∀ W', Stp ε W W' → LMut K W' d xs) : EvN ε K (tCB (rListO K) (tCons te tNil)) σ W xs := fun W1 g1 Q k => hd W1 g1 _ fun v W2 g2 e => by
  obtain ⟨vs, h, r⟩ := (m W2 (g1.trans g2)).ex
  exact ⟨d, vs, by rw [show v = V.ref d from e], .inl (SqL.of h), fun l hl => k l vs (W2.put l (.lst vs) (W2.free hl)) (g2.and (W2.grow_put hl)) (by
    cases q : W1.H l with
    | none => rfl
    | some o => exact absurd hl (g2.md.d l (by rw [q]; exact fun z => by cases z))) (W2.free hl) upd_same r⟩
theorem EvN.pl {xs : List α} (h : EvN pur K te σ W xs) : EvP pur te σ W (fun v W' => ∃ p, v = .ref p ∧ LMut K W' p xs ∧ W.H p = none) := fun W1 g1 Q k => h W1 g1 Q fun p vs W2 g2 f b e r => k _ W2 g2 ⟨p, rfl, ⟨b, vs, e, r⟩, was_noneL g1.md f⟩
theorem EvM.pm {κ β : Type} [DecidableEq κ] [PyKey κ] [Py β] {kv : List (κ × β)} (h : EvM pur K te σ W kv) : EvP pur te σ W (fun v W' => ∃ p, v = .ref p ∧ DMut K W' p kv ∧ W.H p = none) := fun W1 g1 Q k => h W1 g1 Q fun p W2 g2 f m => k _ W2 g2 ⟨p, rfl, m, was_noneL g1.md f⟩
theorem s_appendE {D : Ends} {d : Addr} {xs : List α} {y : α} (hd : EvR pur K td σ W (Raw.mk (.ref d))) (m : LMut K W d xs) (h : EvR pur K te σ W y) (hl : xs.length < 100000) (q : ∀ W', Md [d] W W' → On W W' → LMut K W' d (xs ++ [y]) → D.nx σ W'.H) : tDrop (tBM K "list" rAppend td (tCons te tNil)) D σ W.H := hd W (.start trivial) _ fun v0 W0 g0 e0 => by
  rw [show v0 = V.ref d from e0]
  obtain ⟨vs, e, r⟩ := (m.gr g0.pure).ex
  refine .inl ⟨rfl, vs, SqL.of e⟩ |> fun z => ⟨z, h W0 g0 _ fun v W1 g1 rv => ?_⟩
  have m1 := (m.gr g0.pure).gr g1.pure
  obtain ⟨vs1, e1, r1⟩ := m1.ex
  have b1 := m1.b
  exact ⟨d, vs1, v, rfl, rfl, e1, by rw [Reps.len r1]; exact Evl.sz_lt hl, q (W1.put d _ b1) ((Grow.s (g0.pure.trans g1.pure)).trans (md_put b1)) ((g0.pure.trans g1.pure).on.trans (md_put b1).on) ⟨b1, _, upd_same, Reps.snoc r1 rv⟩⟩
theorem q_appendE {D : Ends} {tz : TS} {d : Addr} {xs : List α} {y : α} (hd : EvR pur K td σ W (Raw.mk (.ref d))) (m : LMut K W d xs) (h : EvR pur K te σ W y) (hl : xs.length < 100000) (q : ∀ W', Md [d] W W' → On W W' → LMut K W' d (xs ++ [y]) → tz D σ W'.H) : tSeq (tDrop (tBM K "list" rAppend td (tCons te tNil))) tz D σ W.H := s_appendE (D := { D with nx := tz D }) hd m h hl q
theorem ev_sortedDE {β : Type} [Py β] {d : Addr} {kv : List (Int × β)} (hd : EvR ε K te σ W (Raw.mk (.ref d))) (m : DStay ε K W d kv) (hl : kv.length < 64) : EvR ε K (tCB rSortedDI (tCons te tNil)) σ W (sortI (kv.map (·.1))) := fun W1 g1 Q k => hd W1 g1 _ fun v W2 g2 e => by
  obtain ⟨ks, e3, r⟩ := m _ (g1.trans g2)
  exact ⟨d, ks, kv.map (·.1), by rw [show v = V.ref d from e], .inl e3, kreps_keysI r, by simpa using hl, fun ys p h1 h2 hp => by
    rw [sortI_is h1 h2]
    exact k _ (W2.add p _) (g2.and (W2.grow_add hp)) ⟨p, _, rfl, upd_same, int_reps _⟩⟩
theorem em_copyE {β κ : Type} [DecidableEq κ] [PyKV κ] [Py β] {d : Addr} {kv : List (κ × β)} (hd : EvR ε K te σ W (Raw.mk (.ref d))) (m : DStay ε K W d kv) : EvM ε K (tCB rDictC (tCons te tNil)) σ W kv := fun W1 g1 Q k => hd W1 g1 _ fun v W2 g2 e => by
  obtain ⟨ks, e3, r⟩ := m _ (g1.trans g2)
  exact ⟨d, ks, by rw [show v = V.ref d from e], .inl e3, fun p hp => k p (W2.put p (.dK ks) (W2.free hp)) (g2.and (W2.grow_put hp)) (by
    cases q : W1.H p with
    | none => rfl
    | some o => exact absurd hp (g2.md.d p (by rw [q]; exact fun z => by cases z))) ⟨W2.free hp, ks, upd_same, r⟩⟩
end
theorem q_asgL {i : Nat} {te : TE} {tz : TS} {D : Ends} {σ : SS} {H : Hp} (h : te σ H fun v H1 => tz D (σ.set i (some v)) H1) : tSeq (tAsg te (gName i)) tz D σ H := h
section
variable {K : Fg} {vs : List V} {H : Hp} {Q : VK} {E : XK} {C : Addr}
theorem rd_is_number (h : sp_is_number K vs H Q E) : t_is_number K { nx := fun _ H' => Q .non H', rt := Q } (start n_is_number vs) H := by
  obtain ⟨W, v, d, rfl, rfl, rd, k⟩ := h
  refine s_ret (ε := pur) (K := K) (x := numB 0 1000000 d) (ev_numB (i := 0) rfl rd) trivial fun v W' g r => ?_
  rw [show v = _ from r]
  exact k W' g.pure
theorem ev_isNumber {W : Wd} {σ : SS} {te : TE} {d : PyData} (h : EvR pur K te σ W d) : EvR pur K (tCall (sp_is_number K) [] E0 (tCons te tNil)) σ W (numB 0 1000000 d) :=
  (ev_callP1 (P := fun v W => rep K W.B v d) (R := fun v W => rep K W.B v (numB 0 1000000 d)) h.p fun v W1 g e Q k => ⟨W1, v, d, rfl, rfl, e, fun W' g' => k _ W' (.of g') rfl⟩ : EvP _ _ _ _ _)
theorem rd_as_one (h : sp_as_one K vs H Q E) : t_as_one K { nx := fun _ H' => Q .non H', rt := Q } (start n_as_one vs) H := by
  obtain ⟨W, v, u, a, b, rfl, rfl, ra, rb, la, lb, k⟩ := h
  refine s_ret (ε := pur) (K := K) (x := Tup.mk (asOne a.items b.items)) (ev_cb1 (ev_lstStep (ev_sortIT (xs := Tup.mk (a.items ++ b.items)) (ev_op (ev_var (i := 0) rfl ra) (ev_var (i := 1) rfl rb) (ro_catT (by omega))) (by rw [List.length_append]; omega))) rc_tupL) trivial fun v W' g r => ?_
  exact k v W' g.pure r
theorem rd_Ladder___init__ (c : LadderC K C) (h : sp_Ladder___init__ K C vs H Q E) : t_Ladder___init__ K C E { nx := fun _ H' => Q .non H', rt := Q } (start n_Ladder___init__ vs) H := by
  have test : ∀ {W : Wd} {σ : SS} {v : V} {d : PyData}, σ[1]? = some (some v) → rep K W.B v d → EvT pur (tOr (tNot (tB (tCB (rIsi K) (tCons (tVar 1) (tCons (tC (.ty "int")) tNil))))) (tOr (tB (tCB (rIsi K) (tCons (tVar 1) (tCons (tC (.ty "bool")) tNil)))) (tNot (tTest (tChain oLe oLe (tC (.int 1)) (tVar 1) (tC (.int 8))))))) σ W (!numB 1 8 d) := fun {W σ v d} hv rd => by
    refine (et_or (a := !dataI d) (b := dataB d || !numB 1 8 d) (et_not (et_B (ev_cb2 (ev_var hv rd) ev_raw (rc_isD (dcls_int d))))) fun hI => et_or (a := dataB d) (b := !numB 1 8 d) (et_B (ev_cb2 (ev_var hv rd) ev_raw (rc_isD (dcls_bool d)))) fun hB => ?_).is ?_
    · cases d with
      | int n => exact et_not (et_test (K := K) (ev_chain ev_int (ev_var (x := n) hv (dt_int rd)) ev_int ro_B0 ro_B0))
      | bool b => cases hB
      | _ => cases hI
    · cases d <;> rfl
  rcases h with ⟨W, x, dx, w, rfl, rfl, hb, hh, h1, h8, k⟩ | ⟨W, x, u, d, rfl, rfl, rd, hd, k⟩
  rotate_left
  · exact q_when (ε := pur) (b := true) ((test (v := u) rfl rd).is (by rw [hd]; rfl)) trivial (fun _ W1 g1 => k W1 g1.pure) (fun z => by cases z)
  have rw' : rep K W.B (V.int w) (PyData.int w) := rep_dt (α := Int) (x := (w : Int)) rfl
  refine q_when (ε := pur) (b := false) ((test (v := V.int w) rfl rw').is (by simp only [numB]; rw [decide_eq_true (by omega), decide_eq_true (by omega)]; rfl)) trivial (fun z => by cases z) fun _ W1 g1' => ?_
  have g1 := g1'.pure
  have m1 := g1.mut (by simp) hh hb
  refine q_fld (K := K) (y := (w : Int)) c.i.cl c.n1 rfl m1.2 m1.1 (by show 0 < 1000; decide) (ev_var (i := 1) rfl rfl) fun v2 W2 m2 o2 b2 hh2 r2 => ?_
  rw [show v2 = _ from r2] at hh2
  refine q_fldQ c.i.cl c.n2 rfl b2 hh2 (by show 1 < 1000; decide) (en_lst (K := K) (α := Int) ea_nil (by decide)).pl fun v3 W3' W3 g3 ⟨f, e3, mf, ff⟩ m3 o3 b3 hh3 => ?_
  subst e3
  have fx : f ≠ x := fun z => by rw [z, hh2] at ff; cases ff
  have mf3 := mf.g m3 (by simpa using fx)
  refine s_fldQ c.i.cl c.n3 rfl b3 hh3 (by refine Nat.lt_of_le_of_lt (putF_len1 _) (Nat.lt_of_le_of_lt (Nat.add_le_add_right (putF_len1 _) 1) ?_); show 0 + 1 + 1 < 1000; decide) (em_new (κ := Int) (α := Tup Int) (K := K)).pm fun v4 W4' W4 g4 ⟨s, e4, ms, fs⟩ m4 o4 b4 hh4 => ?_
  subst e4
  have sx : s ≠ x := fun z => by rw [z, hh3] at fs; cases fs
  have M2 : Md [x] W W2 := (Grow.s g1).trans m2
  have M3 : Md [x] W W3 := M2.trans ((Grow.s g3).trans m3)
  exact k W4 f s (M3.trans ((Grow.s g4).trans m4)) ⟨b4, ⟨dx, hh4⟩, (mf3.gr g4).g m4 (by simpa using fx), ms.g m4 (by simpa using sx), ⟨h1, h8, by show 0 < w; omega, ⟨List.nodup_nil, fun q h => by simp at h⟩, fun q h => by simp at h, fun q h => by simp at h⟩⟩ (was_noneL M2 ff) (was_noneL M3 fs)
theorem rd_Ladder_size (c : LadderC K C) (h : sp_Ladder_size K C vs H Q E) : t_Ladder_size K C { nx := fun _ H' => Q .non H', rt := Q } (start n_Ladder_size vs) H := by
  obtain ⟨W, x, f, s, w, S, rfl, rfl, r, k⟩ := h
  refine s_ret (ε := pur) (K := K) (x := (w : Int)) (ev_lwide c (j := 0) rfl r) trivial fun v W' g rv => ?_
  rw [show v = _ from rv]
  exact k W' g.pure
theorem rd_Ladder_loose (c : LadderC K C) (h : sp_Ladder_loose K C vs H Q E) : t_Ladder_loose K C { nx := fun _ H' => Q .non H', rt := Q } (start n_Ladder_loose vs) H := by
  obtain ⟨W, x, f, s, w, dx, fr, rfl, rfl, b, h, m, k⟩ := h
  have hf : EvR pur K (tFld K (tVar 0) "free") [some (.ref x)] W (Raw.mk (.ref f)) := ev_fld c.i.cl c.n2 rfl b h (by simp [pur]) lf_f rfl
  exact s_ret (ε := pur) (K := K) (x := Tup.mk (sortI fr)) (ev_cb1 (ev_sortLE hf fun W' g => m.gr g.pure) rc_tupL) trivial fun v W' g rv => k v W' g.pure rv
theorem rd_Ladder_rungs (c : LadderC K C) (h : sp_Ladder_rungs K C vs H Q E) : t_Ladder_rungs K C { nx := fun _ H' => Q .non H', rt := Q } (start n_Ladder_rungs vs) H := by
  obtain ⟨W, x, f, s, w, S, rfl, rfl, r, k⟩ := h
  have hlen : S.2.length ≤ 40 := by
    have := nodup_le (l := S.2.map (·.1)) r.ok.k.nd (m := (List.range 40).map fun h : Nat => (h : Int)) fun y hy => by
      obtain ⟨q, hq, rfl⟩ := List.mem_map.mp hy
      have := r.ok.ks q hq
      have := r.ok.k.nn q hq
      exact List.mem_map.mpr ⟨q.1.toNat, List.mem_range.mpr (by omega), by omega⟩
    simpa using this
  have hs : ∀ {W' : Wd} {σ : SS}, σ[0]? = some (some (.ref x)) → LadAt K C W' x f s w S → EvR pur K (tFld K (tVar 0) "steps") σ W' (Raw.mk (.ref s)) := fun hd r => ev_lsteps c hd r
  have ev := em_dcN (K := K) (ε := pur) (W := W) (σ := [some (.ref x), none]) (j := 1) (tt := tYes) (wi := iList K (tCB rSortedDI (tCons (tFld K (tVar 0) "steps") tNil))) (tk := tVar 1) (tv := tDGet (tFld K (tVar 0) "steps") (tVar 1)) (xs := sortI (S.2.map (·.1))) (p := fun _ => true) (f := fun k => (k, (klook S.2 k).getD ⟨[]⟩))
    (EvJ.i (ei_list (ev_sortedDE (hs rfl r) r.ms.pur (by omega)))) (fun y v W' _ g _ => et_yes) (fun y v W' _ _ g rv => ek_int (ev_var rfl rv)) (fun y v W' hy _ g rv => ev_dgetE (hs rfl (r.gr g.pure)) (r.gr g.pure).ms.pur (ek_int (ev_var rfl rv)) (by
      obtain ⟨q, hq, rfl⟩ := List.mem_map.mp ((sortI_perm _).mem_iff.mp hy)
      rw [klook_memN r.ok.k.nd q hq]
      rfl)) (by rw [(sortI_perm _).length_eq, List.length_map]; omega)
  refine ev W (.start trivial) _ fun p W' g fp m => k p W' g.pure fp ?_
  rw [List.filter_eq_self.mpr (fun _ _ => rfl), kfill_id] at m
  · exact m
  · rw [List.map_map]
    show ((sortI (S.2.map (·.1))).map id).Nodup
    rw [List.map_id]
    exact (sortI_perm _).nodup_iff.mpr r.ok.k.nd
theorem ev_fldHL {C x dx : Addr} {f : Str} {fs : List (Str × V)} {v : V} {j : Nat} {W : Wd} {σ : SS} (c : Cls K C) (n : NoAttr K C f) (hd : σ[j]? = some (some (.ref x))) (hh : W.H x = some (.ins C dx fs)) (hl : fs.lookup f = some v) : EvR pur K (tFld K (tVar j) f) σ W (Raw.mk v) := fun W1 g1 Q k =>
  ⟨_, hd, x, C, dx, fs, v, rfl, g1.pure.h _ _ hh, c, n, hl, k v W1 g1.rf rfl⟩
theorem lok_len {w : Nat} {S : List Int × Stp1} (ok : LOkS w S) : S.2.length ≤ 40 := by
  have := nodup_le (l := S.2.map (·.1)) ok.k.nd (m := (List.range 40).map fun h : Nat => (h : Int)) fun y hy => by
    obtain ⟨q, hq, rfl⟩ := List.mem_map.mp hy
    have := ok.ks q hq
    have := ok.k.nn q hq
    exact List.mem_map.mpr ⟨q.1.toNat, List.mem_range.mpr (by omega), by omega⟩
  simpa using this
theorem rd_Ladder_fed (c : LadderC K C) (h : sp_Ladder_fed K C vs H Q E) : t_Ladder_fed K C { nx := fun _ H' => Q .non H', rt := Q } (start n_Ladder_fed vs) H := by
  obtain ⟨W, x, f, s, w, S, rfl, rfl, r, k⟩ := h
  obtain ⟨ks, hs, rs⟩ := r.ms.ex
  have ls := lok_len r.ok
  have xs := r.xf.2.1
  obtain ⟨dx, hx⟩ := r.ex
  have second : EvR pur K (tCB (rSum K) (tCons (tLockE (tLc (iKeys (tFld K (tVar 0) "steps")) (gName 1) tYes (tOp oShl (tFld K (tVar 0) "wide") (tVar 1)) [1])) tNil)) [some (.ref x), none] W (S.2.map fun q => (w : Int) * (2 : Int) ^ q.1.toNat).sum := by
    refine (ev_cb1 (ev_lock (x := (S.2.map (·.1)).map fun k : Int => (w : Int) * (2 : Int) ^ k.toNat) hs fun WL lk => ?_) rc_sum).is (by rw [List.map_map]; rfl)
    have hx' : WL.H x = some (.ins C dx (lf w f s)) := lk.h _ _ xs hx
    refine ev_lcN (ei_keys (ev_fldHL c.i.cl c.n3 rfl hx' lf_s) lk.lk (KReps.mono (exExt lk.b) rs)) (fun y v W' hy g rv => ?_) (by rw [List.length_map]; omega)
    have hw : EvR pur K (tFld K (tVar 0) "wide") ((wipe [some (V.ref x), none] [1]).set 1 (some v)) W' (w : Int) := fun W1 g1 Q q => ev_fldHL c.i.cl c.n1 rfl (g.pure.h _ _ hx') lf_w W1 g1 Q fun v W2 g2 e => q v W2 g2 (show v = V.int w from e)
    obtain ⟨q, hq, rfl⟩ := List.mem_map.mp hy
    have := r.ok.ks q hq
    have := r.ok.k.nn q hq
    have := r.ok.w8
    exact ev_op hw (ev_var (i := 1) (x := q.1) rfl rv) (ro_I ⟨by omega, by omega, by rw [Int.natAbs_natCast]; omega⟩)
  refine s_ret (ε := pur) (K := K) (x := fedS w S) (ev_op (ev_lenLE (ev_lfree c (j := 0) rfl r) fun W' g => (r.gr g.pure).mf) second ro_I0) trivial fun v W' g rv => ?_
  rw [show v = _ from rv]
  exact k W' g.pure
/-- a new ladder -/
theorem ep_ladder {W : Wd} {σ : SS} {tn : TE} {w : Nat} (hn : EvR pur K tn σ W (w : Int)) (h1 : 1 ≤ w) (h8 : w ≤ 8) :
    EvP pur (tMake C (sp_Ladder___init__ K C) [] E0 (tCons tn tNil)) σ W (fun v W' => ∃ y f s, v = .ref y ∧ LadAt K C W' y f s w ([], []) ∧ W.H y = none ∧ W.H f = none ∧ W.H s = none) := fun W1 g1 Q k => hn W1 g1 _ fun v2 W2 g2 r2 y dx hy hdx ne => by
  rw [show v2 = _ from r2]
  let Wa := W2.put dx (.own y) (W2.free hdx)
  have ga : Grow W2 Wa := W2.grow_put hdx
  have hy' : Wa.H y = none := (upd_ne ne.symm).trans hy
  let Wb := Wa.put y (.ins C dx []) (Wa.free hy')
  have gb : Grow Wa Wb := Wa.grow_put hy'
  have gab := ga.trans gb
  have g02 := (g1.trans g2).pure
  refine .inl ⟨Wb, y, dx, w, rfl, rfl, Wa.free hy', upd_same, h1, h8, fun W3 f s m3 r3 ff fs => ⟨rfl, ?_⟩⟩
  have M : Md [y] W2 W3 := (Grow.s gab).trans m3
  exact k _ W3 (g2.and (Md.fresh (.refl [] W2) M hy)) ⟨y, f, s, rfl, r3, was_noneL g02 hy, was_noneL (g02.trans gab) ff, was_noneL (g02.trans gab) fs⟩
theorem LadAt.al {W : Wd} {x f s : Addr} {w : Nat} {S : List Int × Stp1} (r : LadAt K C W x f s w S) {a : Addr} (h : W.H a = none) : a ≠ x ∧ a ≠ f ∧ a ≠ s := by
  obtain ⟨dx, hx⟩ := r.ex
  obtain ⟨vs, e, _⟩ := r.mf.ex
  obtain ⟨ks, e', _⟩ := r.ms.ex
  exact ⟨fun z => by (rw [z, hx] at h; cases h), fun z => by (rw [z, e] at h; cases h), fun z => by (rw [z, e'] at h; cases h)⟩
theorem rd_Ladder_twin (c : LadderC K C) (h : sp_Ladder_twin K C vs H Q E) : t_Ladder_twin K C { nx := fun _ H' => Q .non H', rt := Q } (start n_Ladder_twin vs) H := by
  obtain ⟨W, x, f, s, w, S, rfl, rfl, r, k⟩ := h
  refine q_asgP (ε := pur) (ep_ladder (K := K) (C := C) (w := w) (ev_lwide c (j := 0) rfl r) r.ok.w1 r.ok.w8) trivial fun v W3 g3' ⟨y, f', s', ev, r3, yW, fW, sW⟩ => ?_
  subst ev
  have g3 := g3'.pure
  have rx3 := r.gr g3
  obtain ⟨ax, af, as⟩ := r.al yW
  show tSeq _ _ _ [some (.ref x), some (.ref y)] W3.H
  obtain ⟨dy, hh3⟩ := r3.ex
  refine q_fldQ c.i.cl c.n2 (i := 1) rfl r3.b hh3 lf_len (en_listLE (ev_lfree (K := K) c (j := 0) rfl rx3) fun W' g => (rx3.gr g.pure).mf).pl fun v W4 W5 g4 ⟨p, e4, mp, fp⟩ m5 o5 b5 hh5 => ?_
  subst e4
  rw [lf_putF] at hh5
  have py : p ≠ y := fun z => by rw [z, hh3] at fp; cases fp
  have rx5 := (rx3.gr g4).g m5 (by simpa using ax.symm) (by simpa using af.symm) (by simpa using as.symm)
  have mp5 := mp.g m5 (by simpa using py)
  refine q_fldQ c.i.cl c.n3 (i := 1) rfl b5 hh5 lf_len (em_copyE (ev_lsteps (K := K) c (j := 0) rfl rx5) rx5.ms.pur).pm fun v W6 W7 g6 ⟨e, e6, me, fe⟩ m7 o7 b7 hh7 => ?_
  subst e6
  rw [lf_putS] at hh7
  have ey : e ≠ y := fun z => by rw [z, hh5] at fe; cases fe
  have r7 : LadAt K C W7 y p e w S := ⟨b7, ⟨dy, hh7⟩, (mp5.gr g6).g m7 (by simpa using py), me.g m7 (by simpa using ey), r.ok⟩
  refine s_retP (ε := pur) (P := fun v _ => v = .ref y) (fun W1 g Q q => (ev_rvar (K := K) (i := 1) rfl : EvR pur K _ _ W7 (Raw.mk (.ref y))) W1 g Q fun v W2 g2 e => q v W2 g2 e) trivial fun v W8 g8 e8 => ?_
  subst e8
  have M5 : Md [y] W W5 := (Grow.s g3).trans ((Grow.s g4).trans m5)
  have M7 : Md [y] W W7 := M5.trans ((Grow.s g6).trans m7)
  have G : Grow W W8 := (Md.fresh (.refl [] W) M7 yW).trans g8.pure
  exact k y p e W8 G (r7.gr g8.pure) yW (was_noneL g3 fp) (was_noneL M5 fe)
theorem ev_looseR {W : Wd} {σ : SS} {te : TE} {x dx f s : Addr} {w : Int} {fr : List Int} (c : LadderC K C) (hd : EvR pur K te σ W (Raw.mk (.ref x))) (b : W.B x = none) (h : W.H x = some (.ins C dx (lf w f s))) (m : LMut K W f fr) (hw : ∃ n : Nat, w = n) :
    EvR pur K (tMeth C "loose" (sp_Ladder_loose K C) [] E0 te tNil) σ W (Tup.mk (sortI fr)) := fun W1 g1 Q k => hd W1 g1 _ fun v W2 g2 e => by
  obtain ⟨n, rfl⟩ := hw
  have m2 := (g1.trans g2).pure.mut (by simp) h b
  rw [show v = V.ref x from e]
  exact ⟨x, dx, _, rfl, m2.1, lf_no (by decide +kernel) (by decide +kernel) (by decide +kernel), W2, x, f, s, n, dx, fr, rfl, rfl, m2.2, m2.1, (m.gr (g1.trans g2).pure), fun v W3 g3 rv => k v W3 (g2.trans (.of g3)) rv⟩
theorem ev_loose {W : Wd} {σ : SS} {te : TE} {x f s : Addr} {w : Nat} {S : List Int × Stp1} (c : LadderC K C) (hd : EvR pur K te σ W (Raw.mk (.ref x))) (r : LadAt K C W x f s w S) : EvR pur K (tMeth C "loose" (sp_Ladder_loose K C) [] E0 te tNil) σ W (Tup.mk (sortI S.1)) := by
  obtain ⟨dx, h⟩ := r.ex
  exact ev_looseR c hd r.b h r.mf ⟨w, rfl⟩
theorem ev_lsize {W : Wd} {σ : SS} {te : TE} {x f s : Addr} {w : Nat} {S : List Int × Stp1} (hd : EvR pur K te σ W (Raw.mk (.ref x))) (r : LadAt K C W x f s w S) : EvR pur K (tMeth C "size" (sp_Ladder_size K C) [] E0 te tNil) σ W (w : Int) :=
  ep_lmeth (R := fun v W' => rep K W'.B v (w : Int)) hd r (by decide +kernel) fun W1 r1 Q k => ⟨W1, x, f, s, w, S, rfl, rfl, r1, fun W2 g => k _ W2 g rfl⟩
theorem ev_lfed {W : Wd} {σ : SS} {te : TE} {x f s : Addr} {w : Nat} {S : List Int × Stp1} (hd : EvR pur K te σ W (Raw.mk (.ref x))) (r : LadAt K C W x f s w S) : EvR pur K (tMeth C "fed" (sp_Ladder_fed K C) [] E0 te tNil) σ W (fedS w S) :=
  ep_lmeth (R := fun v W' => rep K W'.B v (fedS w S)) hd r (by decide +kernel) fun W1 r1 Q k => ⟨W1, x, f, s, w, S, rfl, rfl, r1, fun W2 g => k _ W2 g rfl⟩
theorem em_rungs {W : Wd} {σ : SS} {te : TE} {x f s : Addr} {w : Nat} {S : List Int × Stp1} (hd : EvR pur K te σ W (Raw.mk (.ref x))) (r : LadAt K C W x f s w S) : EvM pur K (tMeth C "rungs" (sp_Ladder_rungs K C) [] E0 te tNil) σ W (rungsL S.2) := fun W1 g1 Q k => hd W1 g1 _ fun v W2 g2 e => by
  have r2 := r.gr (g1.trans g2).pure
  obtain ⟨dx, h⟩ := r2.ex
  rw [show v = V.ref x from e]
  exact ⟨x, dx, _, rfl, h, lf_no (by decide +kernel) (by decide +kernel) (by decide +kernel), W2, x, f, s, w, S, rfl, rfl, r2, fun p W3 g3 f3 m3 => k p W3 (g2.trans (.of g3)) (was_noneL g2.md f3) m3⟩
end
end B
/-! the class Ladder: ==, feed -/
namespace B
open PySem L2
open PySem.W (Tup T3 T4 Datum DatumOrd)
open Evl (Ex)
section
variable {K : Fg} {vs : List V} {H : Hp} {Q : VK} {E : XK} {C : Addr}
theorem tup3H {t1 t2 t3 : TE} {σ : SS} {H : Hp} {Q : VK} (h : t1 σ H fun v1 H1 => t2 σ H1 fun v2 H2 => t3 σ H2 fun v3 H3 => [v1, v2, v3].length ≤ sizeLine ∧ ∀ p, H3 p = none → Q (.ref p) (upd H3 p (.tup [v1, v2, v3]))) : tTup (tCons t1 (tCons t2 (tCons t3 tNil))) σ H Q := h
theorem retH {te : TE} {D : Ends} {σ : SS} {H : Hp} (h : te σ H D.rt) : tRet te D σ H := h
theorem opH {r : R2} {ta tb : TE} {σ : SS} {H : Hp} {Q : VK} (h : ta σ H fun x H1 => tb σ H1 fun y H2 => r x y H2 Q) : tOp r ta tb σ H Q := h
theorem call2H {sp : Sp} {E : XK} {t1 t2 : TE} {σ : SS} {H : Hp} {Q : VK} (h : t1 σ H fun v1 H1 => t2 σ H1 fun v2 H2 => sp [v1, v2] H2 Q E) : tCall sp [] E (tCons t1 (tCons t2 tNil)) σ H Q := h
theorem popH {td ty : TE} {σ : SS} {H : Hp} {Q : VK} (h : td σ H fun x H1 => ∃ a, x = .ref a ∧ IsD H1 a ∧ ty σ H1 fun y H2 => ∃ kvs k v, H2 a = some (.dK kvs) ∧ y = kV k ∧ valV kvs k = some v ∧ Q v (upd H2 a (.dK (dropK kvs k)))) : tDPop1 td ty σ H Q := h
/-- what == compares -/
def KeyAt (K : Fg) (w : Nat) (s : Addr) (fr : List Int) (v : V) (W : Wd) : Prop := ∃ p u, v = .ref p ∧ W.B p = some (.tup [.int w, u, .ref s]) ∧ rep K W.B u (Tup.mk (sortI fr))
theorem ep_lkey {W : Wd} {σ : SS} {j : Nat} {x f s : Addr} {w : Nat} {S : List Int × Stp1} (c : LadderC K C) (hd : σ[j]? = some (some (.ref x))) (r : LadAt K C W x f s w S) :
    EvP pur (tTup (tCons (tFld K (tVar j) "wide") (tCons (tMeth C "loose" (sp_Ladder_loose K C) [] E0 (tVar j) tNil) (tCons (tFld K (tVar j) "steps") tNil)))) σ W (KeyAt K w s S.1) := fun W1 g1 Q k => tup3H
  (ev_lwide c hd (r.gr g1.pure) W1 (.start trivial) _ fun v1 W2 g2 e1 => ev_loose (W := W1) c (ev_rvar hd) (r.gr g1.pure) W2 g2 _ fun v2 W3 g3 e2 => ev_lsteps (W := W1) c hd (r.gr g1.pure) W3 (g2.trans g3) _ fun v3 W4 g4 e3 => by
    rw [show v1 = V.int w from e1, show v3 = V.ref s from e3]
    exact ⟨Evl.sz_of (by show 3 ≤ 100000; decide), fun p hp => k _ (W4.add p (.tup [.int w, v2, .ref s])) (((g2.trans g3).trans g4).and (W4.grow_add hp)) ⟨p, v2, rfl, upd_same, rep_g (W4.grow_add hp) (rep_s g4 e2)⟩⟩)
theorem tupB {W : Wd} {p : Addr} {xs : List V} (h : W.B p = some (.tup xs)) : W.H p = some (.tup xs) := (W.sub _ _ h).elim id fun z => by
  obtain ⟨⟨_, z⟩, _⟩ := z
  cases z
theorem KeyAt.s {W W' : Wd} {w : Nat} {s : Addr} {fr : List Int} {v : V} (h : KeyAt K w s fr v W) (g : Stp pur W W') : KeyAt K w s fr v W' := by
  obtain ⟨p, u, e, hb, r⟩ := h
  exact ⟨p, u, e, g.md.b _ _ hb, rep_s g r⟩
theorem rd_Ladder___eq__ (c : LadderC K C) (h : sp_Ladder___eq__ K C vs H Q E) : t_Ladder___eq__ K C { nx := fun _ H' => Q .non H', rt := Q } (start n_Ladder___eq__ vs) H := by
  rcases h with ⟨W, x, f, s, y, f', s', w, w', S, S', rfl, rfl, r, ry, same, k⟩ | ⟨W, x, u, rfl, rfl, no, k⟩
  rotate_left
  · refine q_when (ε := pur) (b := true) ((et_not (et_B (ev_kdOf (K := K) (ev_rvar (i := 1) rfl) no))).is rfl) trivial (fun _ W1 g1 => ?_) (fun z => by cases z)
    exact k W1 g1.pure
  obtain ⟨dy, hy⟩ := ry.ex
  refine q_when (ε := pur) (b := false) ((et_not (et_B (ev_isOwn c.i rfl ry.b hy (by simp [pur])))).is rfl) trivial (fun z => by cases z) fun _ W1 g1 => ?_
  have r1 := r.gr g1.pure
  have ry1 := ry.gr g1.pure
  refine retH (opH ?_)
  refine ep_lkey (K := K) c (j := 0) (σ := [some (.ref x), some (.ref y)]) rfl r1 W1 (.start trivial) _ fun v W2 g2 kv => ep_lkey (K := K) c (j := 1) (σ := [some (.ref x), some (.ref y)]) rfl ry1 W2 g2 _ fun u W3 g3 ku => ?_
  have r3 := (r1.gr g2.pure).gr g3.pure
  have ry3 := (ry1.gr g2.pure).gr g3.pure
  obtain ⟨p, v2, rfl, hp, rv⟩ := kv.s g3
  obtain ⟨q, u2, rfl, hq, ru⟩ := ku
  refine ⟨8, eqS w S w' S', by decide, ⟨p, q, rfl, rfl, .inr (.inl ⟨_, _, SqT.of (tupB hp), SqT.of (tupB hq), ?_⟩)⟩, k W3 ((g1.pure.trans g2.pure).trans g3.pure)⟩
  refine ⟨decide ((w : Int) = (w' : Int)), decide (sortI S.1 = sortI S'.1) && deq S.2 S'.2, eqa_rep (α := Int) (n := 7) rfl rfl (by decide), ⟨decide (sortI S.1 = sortI S'.1), deq S.2 S'.2, ?_, ⟨deq S.2 S'.2, true, eqa_dict (n := 6) r3.ms ry3.ms (by decide) same, rfl, (Bool.and_true _).symm⟩, rfl⟩, rfl⟩
  have := eqa_rep (α := Tup Int) (n := 7) (rep_h rv) (rep_h ru) (by decide)
  rw [show decide (Tup.mk (sortI S.1) = Tup.mk (sortI S'.1)) = decide (sortI S.1 = sortI S'.1) from by
    by_cases e : sortI S.1 = sortI S'.1
    · rw [decide_eq_true e, decide_eq_true (by rw [e])]
    · rw [decide_eq_false e, decide_eq_false fun z => e (by injection z)]] at this
  exact this
theorem rd_Ladder_feed (c : LadderC K C) (h : sp_Ladder_feed K C vs H Q E) : t_Ladder_feed K C E { nx := fun _ H' => Q .non H', rt := Q } (start n_Ladder_feed vs) H := by
  rcases h with ⟨W, x, f, s, w, S, n, rfl, rfl, r, n0, n1, ok', k⟩ | ⟨W, x, u, d, rfl, rfl, rd, hd, k⟩
  rotate_left
  · exact q_when (ε := pur) (b := true) ((et_not (et_B (ev_isNumber (K := K) (ev_var (i := 1) rfl rd)))).is (by rw [hd]; rfl)) trivial (fun _ W1 g1 => k W1 g1.pure) (fun z => by cases z)
  show t_Ladder_feed K C E _ [some (.ref x), some (.int n), none, none] W.H
  have rn : rep K W.B (V.int n) (PyData.int n) := rep_dt (α := Int) (x := n) rfl
  refine q_when (ε := pur) (b := false) ((et_not (et_B (ev_isNumber (K := K) (ev_var (i := 1) rfl rn)))).is (by simp only [numB]; rw [decide_eq_true n0, decide_eq_true n1]; rfl)) trivial (fun z => by cases z) fun _ W1 g1 => ?_
  have r1 := r.gr g1.pure
  have ok := r.ok
  obtain ⟨xf, xs, fs⟩ := r.xf
  refine q_appendE (K := K) (ev_lfree c (j := 0) rfl r1) r1.mf (ev_var (i := 1) (x := n) rfl rfl) (by have := ok.fl; have := ok.w8; omega) fun W2 m2 o2 l2 => ?_
  obtain ⟨dx, hx1⟩ := r1.ex
  have x2 := m2.mut (by simpa using xf) hx1 r1.b
  have s2 := r1.ms.g m2 (by simpa using fs.symm)
  have M2 : Md [x, f, s] W W2 := (Grow.s g1.pure).trans (m2.mono (by simp))
  have hf2 : ∀ {W' : Wd} {σ : SS} {f' : Addr}, σ[0]? = some (some (.ref x)) → W'.B x = none → W'.H x = some (.ins C dx (lf w f' s)) → EvR pur K (tFld K (tVar 0) "free") σ W' (Raw.mk (.ref f')) := fun hd b h => ev_fld c.i.cl c.n2 hd b h (by simp [pur]) lf_f rfl
  have hw2 : ∀ {W' : Wd} {σ : SS} {f' : Addr}, σ[0]? = some (some (.ref x)) → W'.B x = none → W'.H x = some (.ins C dx (lf w f' s)) → EvR pur K (tFld K (tVar 0) "wide") σ W' (w : Int) := fun hd b h => ev_fld c.i.cl c.n1 hd b h (by simp [pur]) lf_w rfl
  have hs2 : ∀ {W' : Wd} {σ : SS} {f' : Addr}, σ[0]? = some (some (.ref x)) → W'.B x = none → W'.H x = some (.ins C dx (lf w f' s)) → EvR pur K (tFld K (tVar 0) "steps") σ W' (Raw.mk (.ref s)) := fun hd b h => ev_fld c.i.cl c.n3 hd b h (by simp [pur]) lf_s rfl
  refine s_if (ε := pur) (b := decide (((S.1 ++ [n]).length : Int) = (w : Int))) (et_test (ev_op (ev_lenLE (K := K) (hf2 rfl x2.2 x2.1) fun W' g => l2.gr g.pure) (hw2 rfl x2.2 x2.1) ro_eqI)) trivial (fun hb W3 g3 => ?_) (fun hb W3 g3 => ?_)
  rotate_left
  · have hb := of_decide_eq_false hb
    have x3 := g3.pure.mut (by simp) x2.1 x2.2
    have e : feedF w S n = (S.1 ++ [n], S.2) := by unfold feedF; rw [if_neg fun z => hb (by rw [z])]
    rw [e] at k ok'
    exact k W3 f (M2.trans (Grow.s g3.pure)) ⟨x3.2, ⟨dx, x3.1⟩, l2.gr g3.pure, s2.gr g3.pure, ok'⟩ (.inl rfl)
  have hb : (S.1 ++ [n]).length = w := by have := of_decide_eq_true hb; omega
  have e : feedF w S n = ([], carry S.2.length S.2 0 (sortI (S.1 ++ [n]))) := by unfold feedF; rw [if_pos hb]
  rw [e] at k ok'
  have x3 := g3.pure.mut (by simp) x2.1 x2.2
  have l3 := l2.gr g3.pure
  have s3 := s2.gr g3.pure
  have M3 := M2.trans (Grow.s g3.pure)
  refine q_par (ε := pur) (W := W3) (P := fun v W' => rep K W'.B v (0 : Int)) (R := fun u W' => rep K W'.B u (Tup.mk (sortI (S.1 ++ [n])))) ev_int.p (ev_looseR c (ev_rvar (i := 0) rfl) x3.2 x3.1 l3 ⟨w, rfl⟩).p trivial (fun v W W' g p => rep_s g p) fun v4 v5 W4 g4 e4 r4 => ?_
  have e4' : v4 = V.int 0 := e4
  subst e4'
  have x4 := g4.pure.mut (by simp) x3.1 x3.2
  have s4 := s3.gr g4.pure
  have M4 := M3.trans (Grow.s g4.pure)
  show tSeq _ _ _ [some (.ref x), some (.int n), some (.int 0), some v5] W4.H
  refine q_fldQ c.i.cl c.n2 (i := 0) rfl x4.2 x4.1 lf_len (en_lst (K := K) (α := Int) ea_nil (by decide)).pl fun v6 W5' W5 g5 ⟨f', e6, mf, ff⟩ m5 o5 b5 hh5 => ?_
  subst e6
  rw [lf_putF] at hh5
  have fx : f' ≠ x := fun z => by rw [z, x4.1] at ff; cases ff
  have mf5 := mf.g m5 (by simpa using fx)
  have fs' : f' ≠ s := fun z => by
    obtain ⟨ks, e', _⟩ := s4.ex
    rw [z, e'] at ff; cases ff
  have s5 := (s4.gr g5).g m5 (by simpa using xs.symm)
  have M5 : Md [x, f, s] W W5 := (M4.trans (Grow.s g5)).trans (m5.mono (by simp))
  have r5 : rep K W5.B v5 (Tup.mk (sortI (S.1 ++ [n]))) := rep_on o5 (rep_g g5 r4)
  have nw : NewL W f f' := .inr (was_noneL M4 ff)
  have hfr : (sortI (S.1 ++ [n])).length ≤ 8 := by rw [(sortI_perm _).length_eq, hb]; exact ok.w8
  refine s_while (ε := pur) (D := { nx := (sDPut (tFld K (tVar 0) "steps") (tVar 2) (tVar 3)) { nx := fun _ H' => Q .non H', rt := Q }, rt := Q }) (fun m σ' W' => ∃ (st : Stp1) (h : Int) (r : List Int) (v : V) (fuel : Nat), σ' = [some (.ref x), some (.int n), some (.int h), some v] ∧ m = st.length ∧ rep K W'.B v (Tup.mk r) ∧ Md [x, f, s] W W' ∧ W'.B x = none ∧ W'.H x = some (.ins C dx (lf w f' s)) ∧ LMut K W' f' ([] : List Int) ∧ DMut K W' s st ∧
      carry fuel st h r = carry S.2.length S.2 0 (sortI (S.1 ++ [n])) ∧ st.length ≤ fuel ∧ (st.map (·.1)).Nodup ∧ (∀ q ∈ st, q.2.items.length ≤ 8) ∧ r.length ≤ 8 ∧ st.length ≤ 40) S.2.length
    ⟨S.2, 0, sortI (S.1 ++ [n]), v5, S.2.length, rfl, rfl, r5, M5, b5, hh5, mf5, s5, rfl, Nat.le_refl _, ok.k.nd, ok.ln, hfr, lok_len ok⟩ ?_
  rintro m σ' W6 ⟨st, h, r', v, fuel, rfl, rfl, rv, M6, b6, h6, f6, s6, hc, hf, nd, ln, rl, sl⟩
  refine ⟨trivial, decide (h ∈ st.map (·.1)), et_B (ev_dinE (hs2 rfl b6 h6) s6.pur (ek_int (K := K) (ev_var (i := 2) (x := h) rfl rfl))), fun hm W7 g7 => ?_, fun hm W7 g7 => ?_⟩
  · have hm := of_decide_eq_true hm
    obtain ⟨q0, hq, eq0⟩ := List.mem_map.mp hm
    obtain ⟨h', t⟩ := q0
    have eq0 : h' = h := eq0
    subst eq0
    have kt : klook st h' = some t := klook_memN nd _ hq
    have x7 := g7.pure.mut (by simp) h6 b6
    have s7 := s6.gr g7.pure
    obtain ⟨ks, ek, rk⟩ := s7.ex
    refine q_asgL (call2H (popH ?_))
    refine hs2 (W' := W7) (σ := [some (.ref x), some (.int n), some (.int h'), some v]) rfl x7.2 x7.1 W7 (.start trivial) _ fun v8 W8 g8 e8 => ?_
    have s8 := s7.gr g8.pure
    obtain ⟨ks8, ek8, rk8⟩ := s8.ex
    obtain ⟨vt, hv1, hv2⟩ := rk8.some kt
    refine ⟨s, e8, .inl ⟨ks8, .inl ek8⟩, _, rfl, ks8, PyKey.key h', vt, ek8, rfl, hv1, v, rfl, ?_⟩
    let W9 : Wd := W8.put s (.dK (dropK ks8 (PyKey.key h'))) s8.b
    have m9 : Md [s] W8 W9 := md_put s8.b
    have s9 : DMut K W9 s (kdrop st h') := ⟨s8.b, _, upd_same, KReps.drop rk8 h'⟩
    refine ⟨W9, vt, v, t, Tup.mk r', rfl, rfl, rep_on m9.on hv2, rep_on m9.on (rep_s g8 (rep_s g7 rv)), ln _ hq, rl, fun z W10 g10 rz => ?_⟩
    have x8 := g8.pure.mut (by simp) x7.1 x7.2
    have x9 := m9.mut (by simpa using xs) x8.1 x8.2
    have x10 := g10.mut (by simp) x9.1 x9.2
    have f8 := (f6.gr g7.pure).gr g8.pure
    have f9 := f8.g m9 (by simpa using fs')
    refine s_augI (ε := pur) (K := K) (f := fun i j => i + j) (a := h') (b := 1) rfl ev_int trivial fun W11 g11 => ?_
    have x11 := g11.pure.mut (by simp) x10.1 x10.2
    have dl := kdrop_lt kt
    have M9 : Md [x, f, s] W W9 := ((M6.trans (Grow.s g7.pure)).trans (Grow.s g8.pure)).trans (m9.mono (by simp))
    refine ⟨(kdrop st h').length, W11, dl, rfl, kdrop st h', h' + 1, asOne t.items r', z, fuel - 1, rfl, rfl, rep_s g11 rz, (M9.trans (Grow.s g10)).trans (Grow.s g11.pure), x11.2, x11.1, (f9.gr g10).gr g11.pure, (s9.gr g10).gr g11.pure, ?_, by omega, kdrop_nodup nd, fun q hq => ln q (kdrop_sub hq), asOne_len (ln _ hq) rl, by omega⟩
    rw [← hc]
    obtain ⟨fu, rfl⟩ : ∃ fu, fuel = fu + 1 := ⟨fuel - 1, by omega⟩
    show carry fu _ _ _ = carry (fu + 1) _ _ _
    simp only [carry]
    rw [kt]
  · have hm := of_decide_eq_false hm
    have kn : klook st h = none := klook_none.mpr hm
    rw [carry_none kn] at hc
    have x7 := g7.pure.mut (by simp) h6 b6
    refine s_dputE (K := K) (k := h) (x := Tup.mk r') (hs2 rfl x7.2 x7.1) (s6.gr g7.pure) (ev_var (i := 3) rfl (rep_s g7 rv)) (ek_int (K := K) (ev_var (i := 2) (x := h) rfl rfl)) (by omega) fun W8 m8 o8 s8 => ?_
    have x8 := m8.mut (by simpa using xs) x7.1 x7.2
    rw [hc] at s8
    exact k W8 f' ((M6.trans (Grow.s g7.pure)).trans (m8.mono (by simp))) ⟨x8.2, ⟨dx, x8.1⟩, (f6.gr g7.pure).g m8 (by simpa using fs'), s8, ok'⟩ nw
end
end B
/-! B: x not in a list of texts, x a thing of any kind -/
namespace PySem
namespace SeqAt
open AutoSeq1 (wpAny_loadPart')
open MeetsSeq
open PySem.Calls Builtin
theorem str_declines_dict (b : Str) (u : Tok) (l : Addr) (es : Array DictEntry) (n : Nat) (dd : Option Addr) (sl : Array (Option Value)) :
    Meets (Builtin.«str.__eq__» ⟨[.str b u, .ref l], []⟩) (fun _ R s => s.heap.get? l = some { cls := .type "dict", dict := dd, data := .dict es n, slots := sl } ∧ R (.ok (.ret .notImplemented)) s) :=
  .of_wp fun prog w A R s h => by
    obtain ⟨hp, g, d, tk, os⟩ := s
    obtain ⟨hl, h⟩ := h
    wp_walk using wpAny_loadPart' hl, wpAny_load hl
    exact ⟨_, rfl, h⟩
theorem dict_declines_str (l : Addr) (es : Array DictEntry) (n : Nat) (dd : Option Addr) (sl : Array (Option Value)) (b : Str) (u : Tok) :
    Meets (Builtin.«dict.__eq__» ⟨[.ref l, .str b u], []⟩) (fun _ R s => s.heap.get? l = some { cls := .type "dict", dict := dd, data := .dict es n, slots := sl } ∧ R (.ok (.ret .notImplemented)) s) :=
  .of_wp fun prog w A R s h => by
    obtain ⟨hp, g, d, tk, os⟩ := s
    obtain ⟨hl, h⟩ := h
    have f1 := F.sub_str_dict
    wp_walk using wpAny_loadPart' hl
    exact ⟨_, rfl, h⟩
theorem eq_str_dict {A : Around} {s : Shared} {l : Addr} {o : Obj} {es : Array DictEntry} {n : Nat} (b : Str) (u : Tok) (ho : s.heap.get? l = some o) (hc : o.cls = .type "dict") (hd : o.data = .dict es n) (hu : A.units < cLine) : EqAt A s (.str b u) (.ref l) false := fun prog w E Q h => by
  obtain ⟨cls, dd, data, sl⟩ := o
  simp only at hc hd
  subst hc hd
  unfold eqBool
  refine wpAny_holding ?_
  refine wpAny_ite_split (fun hab => absurd (eq_of_beq hab) nofun) (fun _ => ?_)
  refine wpAny_bind ?_
  exact rc_eq_decline_or (k := false) (typeIs_str s b u) ⟨_, ho, rfl⟩ (by decide) F.sub_dict_str F.slot_str_eq F.slot_dict_eq_refl
    (fun _ hq => call_meets F.slot_str_eq (typeIs_str s b u) F.entry_str_eq (F.args_str_eq_2 _ _) (str_declines_dict b u l es n dd sl) ⟨ho, hq⟩)
    (fun _ hq => call_meets F.slot_dict_eq_refl ⟨_, ho, rfl⟩ F.entry_dict_eq (F.args_dict_eq_2 _ _) (dict_declines_str l es n dd sl b u) ⟨ho, hq⟩)
    (fun _ hq => wpAny_of_eq (rfl : isSame (.str b u) (.ref l) = pure false) hq) (.inr hu) (wpAny_truthy_bool h)
end SeqAt
end PySem
namespace B
open PySem PySem.Spec PyProof.Rows L2
/-- a thing that is no text -/
def NotS (K : Fg) (H : Hp) (x : V) : Prop := x = .non ∨ (∃ b, x = .bl b) ∨ (∃ i, x = .int i) ∨ (∃ a xs, x = .ref a ∧ SqL K H a xs) ∨ (∃ a xs, x = .ref a ∧ SqT K H a xs) ∨ (∃ a ks, x = .ref a ∧ Rd H a (.dK ks))
/-- x not in ys, x a thing of any kind, ys texts -/
def rNinX (K : Fg) : R2 := fun x y H Q => rInTL K true x y H Q ∨ (NotS K H x ∧ ∃ (a : Addr) (ss : List Str), y = .ref a ∧ SqL K H a (ss.map V.str) ∧ Q (.bl true) H)
theorem vals_strs : ∀ {ss : List Str} {us : List Value}, Vals (ss.map V.str) us → ∀ u ∈ us, ∃ s t, u = .str s t
  | [], _, .nil, u, h => by cases h
  | s :: ss, _, .cons r rs, u, h => by
    rcases List.mem_cons.mp h with rfl | h
    · obtain ⟨t, e⟩ := r
      exact ⟨s, t, e⟩
    · exact vals_strs rs u h
theorem op_ninX {X : Cx} (hu : X.A.units + 64 < cLine) : OpR X (compareOp .NotIn) (rNinX X.K) := by
  intro pins s σ H x y v u Q I rx ry h
  rcases h with h | ⟨hn, a, ss, rfl, hl, q⟩
  · exact op_notInTL hu pins s σ H x y v u Q I rx ry h
  obtain rfl : u = Value.ref a := ry
  obtain ⟨its, rv, ⟨o, n, ho, hc, _, hd⟩, _⟩ := I.list hl
  have allS := vals_strs rv
  have hu1 : X.A.in1.units < cLine := by show X.A.units + 1 < _; omega
  have fin : ∀ {v : Value}, (∀ y, y ∈ its.toArray → SeqAt.EqAt X.A.in1 s y v false) → wpAny (model X.prog X.w) X.A (compareOp .NotIn v (.ref a)) (EP X pins σ Q) X.xe s := fun {v} he =>
    SeqAt.notIn_listAt (fun _ => false) ⟨o, ho, hc, n, hd⟩ he (by
      rw [show (its.toArray.any fun _ => false) = false by simp]
      exact ⟨.bl true, H, I, rfl, q⟩)
  have at_ : ∀ {y : Value}, y ∈ its.toArray → ∃ s t, y = .str s t := fun h => allS _ (by simpa using h)
  rcases hn with rfl | ⟨b, rfl⟩ | ⟨i, rfl⟩ | ⟨c, xs, rfl, hs⟩ | ⟨c, xs, rfl, hs⟩ | ⟨c, ks, rfl, hs⟩
  · obtain rfl : v = Value.none := rx
    exact fin fun y hy => by obtain ⟨s', t, rfl⟩ := at_ hy; exact SeqAt.EqAt.str_none _ _
  · obtain rfl : v = Value.bool b := rx
    exact fin fun y hy => by obtain ⟨s', t, rfl⟩ := at_ hy; exact SeqAt.EqAt.str_bool _ _ _
  · obtain ⟨t2, rfl⟩ := rx
    exact fin fun y hy => by obtain ⟨s', t, rfl⟩ := at_ hy; exact SeqAt.EqAt.str_int _ _ _ _
  · obtain rfl : v = Value.ref c := rx
    obtain ⟨its2, _, ⟨o2, n2, ho2, hc2, _, hd2⟩, _⟩ := I.list hs
    exact fin fun y hy => by obtain ⟨s', t, rfl⟩ := at_ hy; exact SeqAt.EqAt.str_list _ _ ⟨o2, ho2, hc2, n2, hd2⟩ hu1
  · obtain rfl : v = Value.ref c := rx
    obtain ⟨its2, _, ⟨o2, ho2, hc2, n2, hd2⟩, _⟩ := I.tuple hs
    exact fin fun y hy => by obtain ⟨s', t, rfl⟩ := at_ hy; exact SeqAt.EqAt.str_tuple _ _ ⟨o2, ho2, hc2, n2, hd2⟩ hu1
  · obtain rfl : v = Value.ref c := rx
    obtain ⟨_, _, vs, _, o2, es, ep, ho2, ex, hd2, _⟩ := dk_rd I.hok hs
    exact fin fun y hy => by obtain ⟨s', t, rfl⟩ := at_ hy; exact SeqAt.eq_str_dict _ _ ho2 ex.1 hd2 hu1
end B
/-! B: methods called within a try -/
namespace B
open PySem PySem.Spec PyProof.Rows L2
/-- o.m(e, .., k = v, ..) within a try -/
def tMethNS (C : Addr) (m : Str) (n j : Nat) (sp : Sp) (gV : List V → List V → List V) (E : L2.St → XK) (to : TE) (t tk : TA) : TE := fun σ H Q => to σ H fun x H1 => ∃ a dx fs, x = .ref a ∧ H1 a = some (.ins C dx fs) ∧ fs.lookup m = none ∧
  t σ H1 fun vs H2 => tk σ H2 fun zs H3 => vs.length = n ∧ zs.length = j ∧ sp (gV (x :: vs) zs) H3 Q (E σ)
/-- o.m(e, ..) within a try -/
def tMethTS (C : Addr) (m : Str) (sp : Sp) (E : L2.St → XK) (to : TE) (t : TA) : TE := fun σ H Q => to σ H fun x H1 => ∃ a dx fs, x = .ref a ∧ H1 a = some (.ins C dx fs) ∧ fs.lookup m = none ∧ t σ H1 fun vs H2 => sp (x :: vs) H2 Q (E σ)
section
variable {X : Cx} {CX : CXT} {k n j : Nat} {f C : Addr} {fd : FuncData} {ps ks : List Str} {sp : Sp} {E : L2.St → XK} {o e : Expr} {es : List Expr} {to : TE} {t tk : TA} {kws : List Keyword} {m : Str} {apos pos : Pos} {gV : List V → List V → List V}
theorem run_fnNS {g : List Value → List Value → List Value} {pins : List (Addr × Obj)} {σ : L2.St} {H : Hp} {s : Shared} {Q : VK} {us ws : List Value} {vs zs : List V} (F : FnOk X.prog X.w X.K X.mg X.base CX k f fd ps sp) (hr : Room k X.A) (hb : KBn X.K fd ps n ks g gV) (hx : PassesAt CX X σ (E σ))
    (I : Inv X pins σ H s) (r : Vals vs us) (rz : Vals zs ws) (l1 : vs.length = n) (l2 : zs.length = ks.length) (h : sp (gV vs zs) H Q (E σ)) : wpAny (model X.prog X.w) X.A (call (.ref f) us (ks.zip ws)) (EP X pins σ Q) X.xe s := by
  have r2 := hb.rel r rz
  refine wpAny_call (codeAny_mono (F.run X.A X.stack s H ⟨us, ks.zip ws⟩ (g us ws) (gV vs zs) Q (E σ) hr I.env0 (hb.to s us ws I.kIn (r.length.symm.trans l1) (rz.length.symm.trans l2)) r2 h) fun r s' hq => ?_)
  cases r with
  | error e => exact hx pins H s e s' I hq
  | ok fl =>
    cases fl with
    | ret u => exact I.after hq
    | next => exact False.elim hq
    | brk => exact False.elim hq
    | cont => exact False.elim hq
theorem pe_methNS {pl : Sem Bool} (he : PE X o to) (c : Cls X.K C) (hm : Meth X.K C m f) (F : FnOk X.prog X.w X.K X.mg X.base CX k f fd ps sp) (hr : Room k X.A) (hb : ∃ g, KBn X.K fd ps (n + 1) ks g gV) (hx : ∀ σ, PassesAt CX X σ (E σ)) (ha : PA X (e :: es) t)
    (hkw : PK X kws tk) (hall : (backToKw pos (keywordEach kws X.env)).all (·.1.isSome) = true := by rfl) (hks : (backToKw pos (keywordEach kws X.env)).filterMap (·.1) = ks := by rfl)
    (hn : j = ks.length := by rfl) (hpl : ((backTo pos (starEach (e :: es) X.env)).any (·.1) || (backToKw pos (keywordEach kws X.env)).any (·.1.isNone)) = false := by rfl) (hs : starEach (e :: es) X.env = (false, eval e X.env) :: starEach es X.env := by rfl)
    (ht : eval (.Call (.Attribute o m apos) (e :: es) kws pos) X.env = (eval o X.env >>= fun ov => standAt apos.atName >>= fun _ => holding [ov] (getMethod ov m pl) >>= fun fx => callWith pos fx.1 fx.2 (backTo pos (starEach (e :: es) X.env)) (backToKw pos (keywordEach kws X.env))) := by rfl) :
    PE X (.Call (.Attribute o m apos) (e :: es) kws pos) (tMethNS C m n j sp gV E to t tk) := by
  subst hn
  obtain ⟨g, hb⟩ := hb
  refine ⟨fun pins s σ H Q I h => PySem.W.methodCall_KW (pl := pl) (thn (he.run pins s σ H _ I h) fun u s1 ⟨x, H1, I1, rx, a, dx, fs, ex, ea, lk, q⟩ => ?_) ht⟩
  subst ex
  obtain rfl : u = Value.ref a := rx
  refine getmeth_ok I1 ea c hm lk (PySem.W.callWith_KW (first := [.ref a]) (h₀ := X.base) I.ok.mod.kin hm.kp hall (thn (ha.run pos pins s1 σ H1 _ I1 q) fun us s2 ⟨vs, H2, I2, r, q2⟩ => thn (hkw.run pos pins s2 σ H2 _ I2 q2) fun ws s3 ⟨zs, H3, I3, rz, l1, l2, q3⟩ => ⟨I3.kIn, ?_⟩) hpl hs)
  rw [hks]
  exact run_fnNS (vs := .ref a :: vs) F hr hb (hx σ) I3 (.cons rfl r) rz (by rw [List.length_cons, l1]) l2 q3
theorem pe_methTS {pl : Sem Bool} (he : PE X o to) (c : Cls X.K C) (hm : Meth X.K C m f) (F : FnOk X.prog X.w X.K X.mg X.base CX k f fd ps sp) (hr : Room k X.A) (hb : Binds X.K fd ps []) (hx : ∀ σ, PassesAt CX X σ (E σ)) (ha : PA X (e :: es) t)
    (hst : starEach (e :: es) X.env = (false, eval e X.env) :: starEach es X.env := by rfl) (hpl : (backTo pos (starEach es X.env)).any (·.1) = false := by rfl)
    (ht : eval (.Call (.Attribute o m apos) (e :: es) [] pos) X.env = (do
      let ov ← eval o X.env
      standAt apos.atName
      let (f, first) ← holding [ov] (getMethod ov m pl)
      callWith pos f first (backTo pos (starEach (e :: es) X.env)) (backToKw pos (keywordEach [] X.env))) := by rfl) :
    PE X (.Call (.Attribute o m apos) (e :: es) [] pos) (tMethTS C m sp E to t) := by
  refine ⟨fun pins s σ H Q I h => ?_⟩
  refine PySem.W.methodCall_KW (pl := pl) (thn (he.run pins s σ H _ I h) fun u s1 ⟨x, H1, I1, rx, a, dx, fs, ex, ea, l, q⟩ => ?_) ht
  subst ex
  obtain rfl : u = Value.ref a := rx
  refine getmeth_ok I1 ea c hm l ?_
  refine PySem.W.callWith_K (first := [.ref a]) (h₀ := X.base) I.ok.mod.kin hm.kp (thn (ha.run pos pins s1 σ H1 _ I1 q) fun us s2 ⟨vs, H2, I2, r, q2⟩ => ⟨I2.kIn, ?_⟩) hst hpl
  exact run_fnS (us := .ref a :: us) (vs := .ref a :: vs) F hr hb (hx σ) I2 (.cons rfl r) q2
end
end B
/-! B: instances made within a try; isinstance(e, (A, B, ..)) of an error that was kept -/
namespace B
open PySem PySem.Spec PyProof.Rows L2
/-- C(e, ..) within a try -/
def tMakeTS (C : Addr) (sp : Sp) (E : L2.St → XK) (t : TA) : TE := fun σ H Q => t σ H fun vs H1 => ∀ x dx, H1 x = none → H1 dx = none → dx ≠ x →
  sp (.ref x :: vs) (upd (upd H1 dx (.own x)) x (.ins C dx [])) (fun v H2 => v = .non ∧ Q (.ref x) H2) (E σ)
section
variable {X : Cx} {CX : CXT} {k : Nat} {f C : Addr} {fd : FuncData} {ps : List Str} {sp : Sp} {E : L2.St → XK} {x : Str} {p pos : Pos} {e : Expr} {es : List Expr} {t : TA}
theorem run_makeTS {pins : List (Addr × Obj)} {σ : L2.St} {H : Hp} {s : Shared} {Q : VK} {us : List Value} {vs : List V} (M : Mk X.K C f) (F : FnOk X.prog X.w X.K X.mg X.base CX k f fd ps sp) (hr : Room (k + 1) X.A) (hb : Binds X.K fd ps [])
    (hx : PassesAt CX X σ (E σ)) (I : Inv X pins σ H s) (r : Vals vs us)
    (h : ∀ x dx, H x = none → H dx = none → dx ≠ x → sp (.ref x :: vs) (upd (upd H dx (.own x)) x (.ins C dx [])) (fun v H2 => v = .non ∧ Q (.ref x) H2) (E σ)) :
    wpAny (model X.prog X.w) X.A (call (.ref C) us) (EP X pins σ Q) X.xe s := by
  have hq := h (s.heap.objs.size + 1) s.heap.objs.size (I.hok.fresh (Nat.le_succ _)) (I.hok.fresh (Nat.le_refl _)) (Nat.ne_of_lt (Nat.lt_succ_self _))
  have I2 := Inv.made (C := C) I
  have r2 : Vals (V.ref (s.heap.objs.size + 1) :: vs) (Value.ref (s.heap.objs.size + 1) :: us) := .cons rfl r
  have hl : ((Value.ref (s.heap.objs.size + 1) :: us) ++ []).length = ps.length := by
    have e := r2.length
    rw [F.len _ _ _ _ hq] at e
    rw [List.append_nil]
    exact e.symm
  have b := hb _ (Value.ref (s.heap.objs.size + 1) :: us) I2.kIn hl
  rw [List.append_nil] at b
  refine wpAny_call (make_map (f := f) I.kIn M.makes M.init (beq_iff_eq.mp M.fn) (codeAny_mono (F.run _ X.stack _ _ ⟨Value.ref (s.heap.objs.size + 1) :: us, []⟩ (Value.ref (s.heap.objs.size + 1) :: us) _ _ (E σ) (hr.make C us [])
    (I2.env0.make C us []) b r2 hq) fun r s' hq' => ?_))
  cases r with
  | error e => exact hx pins _ _ e s' I2 hq'
  | ok fl =>
    cases fl with
    | ret u =>
      obtain ⟨v, H', I3, rv, ev, q3⟩ := I2.after hq'
      subst ev
      exact ⟨rv, ⟨V.ref (s.heap.objs.size + 1), H', I3, rfl, q3⟩⟩
    | next => exact False.elim hq'
    | brk => exact False.elim hq'
    | cont => exact False.elim hq'
theorem pe_makeTS (M : Mk X.K C f) (F : FnOk X.prog X.w X.K X.mg X.base CX k f fd ps sp) (hr : Room (k + 1) X.A) (hg : Gl X x) (hm : X.mg x = some (.ref C)) (hb : Binds X.K fd ps []) (hx : ∀ σ, PassesAt CX X σ (E σ))
    (ha : PA X (e :: es) t) (hdb : (x == ("__debug__" : Str)) = false := by decide) (he : starEach (e :: es) X.env = (false, eval e X.env) :: starEach es X.env := by rfl) (hpl : (backTo pos (starEach es X.env)).any (·.1) = false := by rfl) :
    PE X (.Call (.Name x p) (e :: es) [] pos) (tMakeTS C sp E t) := by
  refine ⟨fun pins s σ H Q I h => ?_⟩
  refine wpAny_Call_Name_kw (ld_glob I hg hm ?_ hdb)
  refine PySem.W.callWith_K (h₀ := X.base) I.ok.mod.kin M.kp (thn (ha.run pos pins s σ H _ I h) fun us s1 ⟨vs, H1, I1, r, q⟩ => ⟨I1.kIn, ?_⟩) he hpl
  exact run_makeTS M F hr hb (hx σ) I1 r q
end
/-- isinstance(e, (A, B, ..)), e an error that was kept -/
def rIsKT (K : PySem.W.Frag) : List V → Hp → VK → Prop := fun xs H Q => ∃ (a D tp : Addr) (cs : List V) (us : List Value) (b : Bool), xs = [.ref a, .ref tp] ∧ H a = some (BX.ExK (.ref D) none a) ∧ ExcC K D ∧ H tp = some (.tup cs) ∧ Paired ClsV cs us ∧ PySem.W.kitAny K (.ref D) us = some b ∧ Q (.bl b) H
theorem call_isKT {X : Cx} : CallR X (.builtin "isinstance") (rIsKT X.K) := by
  intro pins s σ H xs us Q I r h
  obtain ⟨a, D, tp, cs, ws, b, rfl, ha, C, hT, k, e, q⟩ := h
  obtain ⟨u1, u2, rfl, r1, r2⟩ := vals2 r
  cases (show u1 = Value.ref a from r1)
  cases (show u2 = Value.ref tp from r2)
  obtain ⟨oe, vs, hget, hz, hv⟩ := (I.hok a _ ha).1
  have J : PySem.W.InstAt s.heap a oe D none := by
    obtain ⟨oc, od, oda, osl⟩ := oe
    obtain ⟨h1, h2⟩ := hz
    dsimp only at h1 h2 hv
    subst h1 h2 hv
    exact ⟨hget, rfl, rfl, trivial⟩
  obtain ⟨_, its, rv, o, h1, h2, n, h3⟩ := (show ObjOk X.prog X.w H s.heap tp (.tup cs) from I.hok tp _ hT)
  have e3 := ClsV.all k rv
  subst e3
  obtain ⟨oc, od, dt, sl⟩ := o
  simp only at h2 h3
  subst h2 h3
  exact PySem.W.kia_tup (PySem.W.handS_kitx_exc C.hg C.hk C.hs C.hd C.ha C.hn C.ht C.hm) I.kIn J h1 e (fun z => nomatch z) fun tk => ⟨.bl b, H, I.kept (t' := tk) fun _ _ z => z, rfl, q⟩
end B
/-! != of lists within one model -/
namespace PySem.SeqAt
open AutoSeq1 (wpAny_loadPart')
open MeetsSeq MeetsSeq2 MeetsSeq3 SeqRoads2
section
variable {prog : Program} {w : World}
theorem handS_ne_loopIn (l b : Addr) (items items2 : Array Value) (n n2 : Nat) (dd dd2 : Option Addr) (sl sl2 : Array (Option Value)) (hsz : items.size = items2.size) (e : Nat → Bool) (k : Nat) :
    ∀ i : Nat, items.size - i = k → MeetsIn prog w (Builtin.«list.__eq__.loop» ⟨[.ref l, .ref b, rawInt i, rawInt 3], []⟩)
      (fun A R s => s.heap.get? l = some { cls := .type "list", dict := dd, data := .seq items n, slots := sl } ∧ s.heap.get? b = some { cls := .type "list", dict := dd2, data := .seq items2 n2, slots := sl2 } ∧
        (∀ j (h1 : j < items.size) (h2 : j < items2.size), EqP prog w A.in1 s items[j] items2[j] (e j)) ∧
        R (.ok (.ret (.bool (!((List.range items.size).drop i).all e)))) s) := by
  induction k with
  | zero =>
    intro i hk A R s h
    obtain ⟨hp, g, d, tk, os⟩ := s; obtain ⟨hl, hb, he, h⟩ := h
    wp_walk using wpAny_loadPart' hl, wpAny_loadPart' hb
    have hi1 : items[((i : Nat) : Int).toNat]? = none := by simp; omega
    have hi2 : items2[((i : Nat) : Int).toNat]? = none := by simp; omega
    have hd : (List.range items.size).drop i = [] := by simp; omega
    rw [hd] at h
    rw [hi1, hi2]
    wp_walk using wpAny_loadPart' hl, wpAny_loadPart' hb
    show R (.ok (.ret (.bool (items.size != items2.size)))) _
    rw [hsz]
    simpa using h
  | succ k ih =>
    intro i hk A R s h
    obtain ⟨hp, g, d, tk, os⟩ := s; obtain ⟨hl, hb, he, h⟩ := h
    wp_walk using wpAny_loadPart' hl, wpAny_loadPart' hb
    have hlt : i < items.size := by omega
    have hlt2 : i < items2.size := by omega
    have hi1 : items[((i : Nat) : Int).toNat]? = some items[i] := by simp [hlt]
    have hi2 : items2[((i : Nat) : Int).toNat]? = some items2[i] := by simp [hlt2]
    have hd : (List.range items.size).drop i = i :: (List.range items.size).drop (i + 1) := by simp [List.drop_eq_getElem_cons, hlt]
    have hc : ((i : Int) + 1) = ((i + 1 : Nat) : Int) := by push_cast; rfl
    rw [hd, List.all_cons] at h
    rw [hi1, hi2]
    refine wpAny_bind (he i hlt hlt2 _ _ ?_)
    cases hb' : e i with
    | true =>
      rw [hb'] at h
      wp_walk
      rw [hc]
      exact ⟨plainId_quiet plain_eq_loop _, codeAny_builtin entry_eq_loop (by
        rw [Around.under_plainId plain_eq_loop _]
        exact ih (i + 1) (by omega) A R _ ⟨hl, hb, he, by simpa using h⟩)⟩
    | false =>
      rw [hb'] at h
      wp_walk using wpAny_loadPart' hl, wpAny_loadPart' hb
      rw [hi1, hi2]
      wp_walk
      simpa using h

theorem handS_list_neIn (l b : Addr) (items items2 : Array Value) (n n2 : Nat) (dd dd2 : Option Addr) (sl sl2 : Array (Option Value)) (hsz : items.size = items2.size) (e : Nat → Bool) :
    MeetsIn prog w (Builtin.«list.__ne__» ⟨[.ref l, .ref b], []⟩)
      (fun A R s => s.heap.get? l = some { cls := .type "list", dict := dd, data := .seq items n, slots := sl } ∧ s.heap.get? b = some { cls := .type "list", dict := dd2, data := .seq items2 n2, slots := sl2 } ∧
        (∀ j (h1 : j < items.size) (h2 : j < items2.size), EqP prog w A.in1 s items[j] items2[j] (e j)) ∧
        R (.ok (.ret (.bool (!(List.range items.size).all e)))) s) := by
  intro A R s h
  obtain ⟨hp, g, d, tk, os⟩ := s; obtain ⟨hl, hb, he, h⟩ := h
  have f3 := AutoSeq1.sub_list_list
  have hne : ¬ (items.size != items2.size) = true := by simp [hsz]
  wp_walk using wpAny_loadPart' hl, wpAny_loadPart' hb
  exact ⟨plainId_quiet plain_eq_loop _, codeAny_builtin entry_eq_loop (by
    rw [Around.under_plainId plain_eq_loop _]
    exact handS_ne_loopIn l b items items2 n n2 dd dd2 sl sl2 hsz e _ 0 rfl A R _ ⟨hl, hb, he, by simpa using h⟩)⟩

theorem rcP_listsNe {A : Around} {s : Shared} {l b : Addr} {items items2 : Array Value} {e : Nat → Bool} (hl : s.heap.IsList l items) (hb : s.heap.IsList b items2) (hsz : items.size = items2.size) (hu : A.units < cLine)
    (he : ∀ j (h1 : j < items.size) (h2 : j < items2.size), EqP prog w A.in1 s items[j] items2[j] (e j)) (E Q : Value → Shared → Prop) (h : Q (.bool (!(List.range items.size).all e)) s) : wpAny (model prog w) A (richCompare .NotEq (.ref l) (.ref b)) Q E s := by
  obtain ⟨⟨cls, dd, data, sl⟩, ho, hc, n, hd⟩ := id hl
  obtain ⟨⟨cls2, dd2, data2, sl2⟩, ho2, hc2, n2, hd2⟩ := id hb
  simp only at hc hd hc2 hd2
  subst hc hd hc2 hd2
  have ta : s.TypeIs (.ref l) "list" := ⟨_, ho, rfl⟩
  have tb : s.TypeIs (.ref b) "list" := ⟨_, ho2, rfl⟩
  exact wpAny_richCompare_same_room (op := .NotEq) ta tb F.slot_list_ne (call_meetsIn F.slot_list_ne ta F.entry_list_ne (F.args_list_ne_2 _ _) (handS_list_neIn l b items items2 n n2 dd dd2 sl sl2 hsz e)
    ⟨ho, ho2, he, show Value.bool (!(List.range items.size).all e) ≠ Value.notImplemented ∧ Q (.bool (!(List.range items.size).all e)) s from ⟨(fun x => nomatch x), h⟩⟩) hu
end
end PySem.SeqAt
namespace B
open PySem L2 PyProof.Rows
section
variable {X : Cx}
/-- a != b: two texts, or two lists where dicts lie within -/
def rNeW (K : Fg) : R2 := fun x y H Q => (∃ i j : Str, x = .str i ∧ y = .str j ∧ Q (.bl (!decide (i = j))) H) ∨ (∃ n a b xs ys r, n ≤ 60 ∧ x = .ref a ∧ y = .ref b ∧ SqL K H a xs ∧ SqL K H b ys ∧ AllB (EqA K H n) xs ys r ∧ Q (.bl (!r)) H) ∨ (∃ a b xs ys, x = .ref a ∧ y = .ref b ∧ SqL K H a xs ∧ SqL K H b ys ∧ xs.length ≠ ys.length ∧ Q (.bl true) H)
theorem op_neW (hu : X.A.units + 64 < cLine) : OpR X (compareOp .NotEq) (rNeW X.K) := by
  intro pins s σ H x y v u Q I rx ry h
  rcases h with ⟨i, j, rfl, rfl, q⟩ | ⟨n, a, b, xs, ys, r, hn, rfl, rfl, ha, hb, hp, q⟩ | ⟨a, b, xs, ys, rfl, rfl, ha, hb, hne, q⟩
  · refine op_ne pins s σ H (.str i) (.str j) v u Q I rx ry ⟨rfl, ?_⟩
    rw [show decide (V.str i = V.str j) = decide (i = j) from by
      by_cases e : i = j
      · rw [decide_eq_true e, decide_eq_true (by rw [e])]
      · rw [decide_eq_false e, decide_eq_false fun z => e (by injection z)]]
    exact q
  · cases (show v = Value.ref a from rx)
    cases (show u = Value.ref b from ry)
    obtain ⟨us, r1, p1, _⟩ := I.list ha
    obtain ⟨ws, r2, p2, _⟩ := I.list hb
    have hsz : us.toArray.size = ws.toArray.size := by
      rw [List.size_toArray, List.size_toArray, ← r1.length, ← r2.length]
      exact hp.len
    obtain ⟨e, k, er⟩ := allB_run (eqA_run I n X.A.in1 (by show X.A.units + 1 + n < cLine; omega)) hp r1 r2
    refine SeqAt.rcP_listsNe (e := e) p1.isList p2.isList hsz (by omega) (fun j h1 h2 => ?_) _ _ ?_
    · have := k j (by simpa using h1) (by simpa using h2)
      simpa using this
    · rw [List.size_toArray, ← er]
      exact ⟨.bl _, H, I, rfl, q⟩
  · cases (show v = Value.ref a from rx)
    cases (show u = Value.ref b from ry)
    obtain ⟨us, r1, p1, _⟩ := I.list ha
    obtain ⟨ws, r2, p2, _⟩ := I.list hb
    exact SeqAt.RcNeAt.lists_lengths p1.isList p2.isList (by simp [← r1.length, ← r2.length, hne]) (by omega) _ _ _ _ ⟨.bl true, H, I, rfl, q⟩
end
/-- xs.insert(i, y) -/
def rInsert : V → List V → Hp → VK → Prop := fun x vs H Q => ∃ (l : Addr) (xs : List V) (i : Int) (y : V), x = .ref l ∧ vs = [.int i, y] ∧ H l = some (.lst xs) ∧ xs.length < sizeLine ∧ 0 ≤ i ∧ i < 2 ^ 63 ∧ Q .non (upd H l (.lst (xs.take i.toNat ++ [y] ++ xs.drop i.toNat)))
end B
/-! the draws of the laws whose state is a dict: begun, draw -/
namespace B
open PySem L2
open Evl (Ex)
abbrev kS (x : Str) : Key := Sum.inr x
theorem k_ca : ¬ kS "cells" = kS "at" := by decide +kernel
theorem k_cr : ¬ kS "cells" = kS "rest" := by decide +kernel
theorem k_ct : ¬ kS "cells" = kS "turn" := by decide +kernel
theorem k_cm : ¬ kS "cells" = kS "more" := by decide +kernel
theorem k_ar : ¬ kS "at" = kS "rest" := by decide +kernel
theorem k_at : ¬ kS "at" = kS "turn" := by decide +kernel
theorem k_am : ¬ kS "at" = kS "more" := by decide +kernel
theorem k_rt : ¬ kS "rest" = kS "turn" := by decide +kernel
theorem k_rm : ¬ kS "rest" = kS "more" := by decide +kernel
theorem k_tm : ¬ kS "turn" = kS "more" := by decide +kernel
def sk (cv : V) (a r t m : Int) : List (Key × V) := [(kS "cells", cv), (kS "at", .int a), (kS "rest", .int r), (kS "turn", .int t), (kS "more", .int m)]
section
variable {cv : V} {a r t m : Int} {v : V}
theorem v_cells : valV (sk cv a r t m) (kS "cells") = some cv := valV_pos rfl
theorem v_at : valV (sk cv a r t m) (kS "at") = some (.int a) := by unfold sk; rw [valV_neg k_ca, valV_pos rfl]
theorem v_rest : valV (sk cv a r t m) (kS "rest") = some (.int r) := by unfold sk; rw [valV_neg k_cr, valV_neg k_ar, valV_pos rfl]
theorem v_turn : valV (sk cv a r t m) (kS "turn") = some (.int t) := by unfold sk; rw [valV_neg k_ct, valV_neg k_at, valV_neg k_rt, valV_pos rfl]
theorem v_more : valV (sk cv a r t m) (kS "more") = some (.int m) := by unfold sk; rw [valV_neg k_cm, valV_neg k_am, valV_neg k_rm, valV_neg k_tm, valV_pos rfl]
theorem merge_sk : mergeK [] (sk cv a r t m) = sk cv a r t m := by
  have e : ∀ (l : List (Key × V)) (k : Key) (x : V), (∀ q ∈ l, ¬ q.1 = k) → putK l k x = l ++ [(k, x)] := fun l k x h => by
    unfold putK
    rw [if_neg fun z => ?_]
    obtain ⟨q, hq, e⟩ := List.any_eq_true.mp z
    exact h q hq (of_decide_eq_true e)
  unfold mergeK sk
  rw [List.foldl_cons, e [] _ _ (by simp), List.foldl_cons, e _ _ _ (by simp only [List.nil_append, List.mem_singleton]; intro q hq; rw [hq]; exact k_ca), List.foldl_cons, e _ _ _ ?_, List.foldl_cons, e _ _ _ ?_, List.foldl_cons, e _ _ _ ?_]
  · rfl
  · intro q hq
    simp only [List.nil_append, List.cons_append, List.mem_cons, List.not_mem_nil, or_false] at hq
    rcases hq with z | z | z | z <;> rw [z]
    · exact k_cm
    · exact k_am
    · exact k_rm
    · exact k_tm
  · intro q hq
    simp only [List.nil_append, List.cons_append, List.mem_cons, List.not_mem_nil, or_false] at hq
    rcases hq with z | z | z <;> rw [z]
    · exact k_ct
    · exact k_at
    · exact k_rt
  · intro q hq
    simp only [List.nil_append, List.cons_append, List.mem_cons, List.not_mem_nil, or_false] at hq
    rcases hq with z | z <;> rw [z]
    · exact k_cr
    · exact k_ar
theorem put_any {k : Key} (h : k ∈ (sk cv a r t m).map (·.1)) : ((sk cv a r t m).any fun q => decide (q.1 = k)) = true := by
  obtain ⟨q, hq, e⟩ := List.mem_map.mp h
  exact List.any_eq_true.mpr ⟨q, hq, decide_eq_true e⟩
theorem p_at {x : Int} : putK (sk cv a r t m) (kS "at") (.int x) = sk cv x r t m := by
  unfold putK
  rw [if_pos (put_any (by simp [sk]))]
  unfold sk
  rw [List.map_cons, List.map_cons, List.map_cons, List.map_cons, List.map_cons, List.map_nil, if_neg k_ca, if_pos rfl, if_neg (Ne.symm k_ar), if_neg (Ne.symm k_at), if_neg (Ne.symm k_am)]
theorem p_rest {x : Int} : putK (sk cv a r t m) (kS "rest") (.int x) = sk cv a x t m := by
  unfold putK
  rw [if_pos (put_any (by simp [sk]))]
  unfold sk
  rw [List.map_cons, List.map_cons, List.map_cons, List.map_cons, List.map_cons, List.map_nil, if_neg k_cr, if_neg k_ar, if_pos rfl, if_neg (Ne.symm k_rt), if_neg (Ne.symm k_rm)]
theorem p_turn {x : Int} : putK (sk cv a r t m) (kS "turn") (.int x) = sk cv a r x m := by
  unfold putK
  rw [if_pos (put_any (by simp [sk]))]
  unfold sk
  rw [List.map_cons, List.map_cons, List.map_cons, List.map_cons, List.map_cons, List.map_nil, if_neg k_ct, if_neg k_at, if_neg k_rt, if_pos rfl, if_neg (Ne.symm k_tm)]
theorem p_more {x : Int} : putK (sk cv a r t m) (kS "more") (.int x) = sk cv a r t x := by
  unfold putK
  rw [if_pos (put_any (by simp [sk]))]
  unfold sk
  rw [List.map_cons, List.map_cons, List.map_cons, List.map_cons, List.map_cons, List.map_nil, if_neg k_cm, if_neg k_am, if_neg k_rm, if_neg k_tm, if_pos rfl]
end
/-- the state stands so -/
structure SdV (K : Fg) (W : Wd) (p : Addr) (cv : V) (cs : List Int) (a r t m : Int) : Prop where
  b : W.B p = none
  h : W.H p = some (.dK (sk cv a r t m))
  c : rep K W.B cv cs
  l : cs.length ≤ 63
  pos : ∀ x ∈ cs, 0 ≤ x
  a0 : 0 ≤ a
  r0 : 0 ≤ r
  t0 : 0 ≤ t
  m0 : 0 ≤ m
structure Sd (K : Fg) (W : Wd) (p : Addr) : Prop where
  ex : ∃ cv cs a r t m, SdV K W p cv cs a r t m
section
variable {K : Fg} {W W' : Wd} {p : Addr} {cv : V} {cs : List Int} {a r t m : Int} {S : List Addr}
theorem SdV.g (s : SdV K W p cv cs a r t m) (g : Md S W W') (h : p ∉ S) : SdV K W' p cv cs a r t m := by
  have := g.mut h s.h s.b
  exact ⟨this.2, this.1, rex g.b s.c, s.l, s.pos, s.a0, s.r0, s.t0, s.m0⟩
theorem Sd.nt (s : Sd K W p) : Nt W.H p := by
  obtain ⟨cv, cs, a, r, t, m, s⟩ := s.ex
  exact .k s.h
theorem Sd.dom (s : Sd K W p) : W.H p ≠ none := s.nt.ne
theorem Sd.off (s : Sd K W p) (g : Md S W W') (h : p ∉ S) : Sd K W' p := by
  obtain ⟨cv, cs, a, r, t, m, s⟩ := s.ex
  exact ⟨cv, cs, a, r, t, m, s.g g h⟩
theorem Sd.g (s : Sd K W p) (g : Grow W W') : Sd K W' p := s.off g (by simp)
end
/-- the effect of drawing -/
def drd (K : Fg) (p : Addr) : Ef := ⟨[p], fun W => Sd K W p, fun W a s h => by
    rw [List.mem_singleton.mp h]; exact s.nt,
  fun W W' b h s => by
    obtain ⟨cv, cs, a, r, t, m, s'⟩ := s.ex
    have h1 := h p (by simp) s.nt
    exact ⟨cv, cs, a, r, t, m, h1.2.trans s'.b, h1.1.trans s'.h, rex b s'.c, s'.l, s'.pos, s'.a0, s'.r0, s'.t0, s'.m0⟩⟩
section
variable {α : Type} [Py α] {K : Fg} {W : Wd} {σ : SS} {i : Nat} {d : Addr} {ks : List (Key × V)} {key : Str} {v : V} {x : α} {tv : TE}
theorem ev_dgetR (hd : σ[i]? = some (some (.ref d))) (hb : W.B d = none) (hh : W.H d = some (.dK ks)) (hv : valV ks (kS key) = some v) (r : rep K W.B v x) : EvR pur K (tDGet (tVar i) (tC (.str key))) σ W x := fun W1 g1 Q k => by
  have m := g1.pure.mut (by simp) hh hb
  exact ⟨_, hd, d, v, rfl, .inl ⟨ks, kS key, .inl m.1, rfl, hv.symm⟩, k v W1 g1.rf (rep_s g1 r)⟩
theorem s_dputR {D : Ends} (hd : σ[i]? = some (some (.ref d))) (hb : W.B d = none) (hh : W.H d = some (.dK ks)) (hl : ks.length < 100000) (hv : EvR pur K tv σ W x)
    (q : ∀ v W', Md [d] W W' → On W W' → W'.B d = none → W'.H d = some (.dK (putK ks (kS key) v)) → rep K W'.B v x → D.nx σ W'.H) : sDPut (tVar i) (tC (.str key)) tv D σ W.H := hv W (.start trivial) _ fun v W1 g1 rv => by
  have m := g1.pure.mut (by simp) hh hb
  exact ⟨_, hd, d, _, rfl, .inl ⟨ks, kS key, m.1, rfl, Evl.sz_lt hl, rfl⟩, q v (W1.put d _ m.2) ((Grow.s g1.pure).trans (md_put m.2)) (g1.on.trans (md_put m.2).on) m.2 upd_same rv⟩
theorem q_dputR {D : Ends} {tz : TS} (hd : σ[i]? = some (some (.ref d))) (hb : W.B d = none) (hh : W.H d = some (.dK ks)) (hl : ks.length < 100000) (hv : EvR pur K tv σ W x)
    (q : ∀ v W', Md [d] W W' → On W W' → W'.B d = none → W'.H d = some (.dK (putK ks (kS key) v)) → rep K W'.B v x → tz D σ W'.H) : tSeq (sDPut (tVar i) (tC (.str key)) tv) tz D σ W.H := s_dputR (D := { D with nx := tz D }) hd hb hh hl hv q
theorem cut_len {ns : List Int} {lo hi : Option Int} : (cutL ns lo hi).length ≤ ns.length := by
  unfold cutL
  rw [List.length_take, List.length_drop]
  omega
/-- a slice of the script -/
theorem ev_slS {a : Addr} {ns : List Int} {n : Int} (hv : σ[i]? = some (some (.ref a))) (h : SqL K W.B a (ns.map V.int)) : EvR pur K (tSl (rSlL K) (tVar i) tNoPart (tPart (tC (.int n)))) σ W (cutL ns none (some n)) := fun W1 g1 Q k =>
  ⟨_, hv, n, rfl, a, ns.map V.int, rfl, W1.sub.l ((exExt g1.md.b).l h), fun p hp => k _ (W1.add p _) (g1.rf.and (W1.grow_add hp)) ⟨p, _, rfl, upd_same, by
    have : cutV (ns.map V.int) none (some n) = (cutL ns none (some n)).map V.int := by
      unfold cutV cutL
      rw [List.length_map, List.map_take, List.map_drop]
    rw [this]
    exact int_reps _⟩⟩
end
def sp__law_begun (K : Fg) : Sp := fun vs H Q _ => ∃ (W : Wd) (a : Addr) (ns : List Int), W.H = H ∧ vs = [.ref a] ∧ SqL K W.B a (ns.map V.int) ∧ ns.length ≤ 63 ∧
  ∀ p W', Grow W W' → Sd K W' p → W.H p = none → Q (.ref p) W'.H
theorem len__law_begun {K : Fg} {vs : List V} {H : Hp} {Q : VK} {E : XK} (h : sp__law_begun K vs H Q E) : vs.length = ["_law_script"].length := by
  obtain ⟨W, a, ns, _, rfl, _⟩ := h
  rfl
/-- _law_begun: the slots 0 _law_script, 1 _law_cell -/
abbrev n__law_begun : List Str := ["_law_script", "_law_cell"]
def t__law_begun (K : Fg) : TS := (tRet (tDisp (((tC (.str "cells")), (tLc (iList K (tSl (rSlL K) (tVar 0) tNoPart (tPart (tC (.int 63))))) (gName 1) tYes (tCB rAbs (tCons (tVar 1) tNil)) [1])) :: (((tC (.str "at")), (tC (.int 0))) :: (((tC (.str "rest")), (tC (.int 0))) :: (((tC (.str "turn")), (tC (.int 0))) :: (((tC (.str "more")), (tOp oAdd (tC (.int 7)) (tCB (rLen K) (tCons (tVar 0) tNil)))) :: [])))))))
def sp__law_draw (K : Fg) : Sp := fun vs H Q _ => ∃ (W : Wd) (p : Addr) (n : Int), W.H = H ∧ vs = [.ref p, .int n] ∧ Sd K W p ∧ 0 < n ∧ n < 1073741824 ∧
  ∀ r W', 0 ≤ r → r < n → Md [p] W W' → Sd K W' p → Q (.int r) W'.H
theorem len__law_draw {K : Fg} {vs : List V} {H : Hp} {Q : VK} {E : XK} (h : sp__law_draw K vs H Q E) : vs.length = ["_law_state", "_law_many"].length := by
  obtain ⟨W, p, n, _, rfl, _⟩ := h
  rfl
/-- _law_draw: the slots 0 _law_state, 1 _law_many, 2 _law_cells, 3 _law_found, 4 _law_cell -/
abbrev n__law_draw : List Str := ["_law_state", "_law_many", "_law_cells", "_law_found", "_law_cell"]
def t__law_draw (K : Fg) : TS := (tSeq (tAsg (tDGet (tVar 0) (tC (.str "cells"))) (gName 2))
  (tSeq (tWhile (tAnd (tTest (tOp oLt (tDGet (tVar 0) (tC (.str "rest"))) (tC (.int 2)))) (tTest (tOp oLt (tDGet (tVar 0) (tC (.str "at"))) (tCB (rLen K) (tCons (tVar 2) tNil)))))
  (tSeq (tIfS (tTest (tOp oGe (tOp (rIxL K) (tVar 2) (tDGet (tVar 0) (tC (.str "at")))) (tOp oPow (tC (.int 10)) (tC (.int 18))))) (sDPut (tVar 0) (tC (.str "rest")) (tOp (rIxL K) (tVar 2) (tDGet (tVar 0) (tC (.str "at"))))) tNext)
  (sDPut (tVar 0) (tC (.str "at")) (tOp oAdd (tDGet (tVar 0) (tC (.str "at"))) (tC (.int 1))))))
  (tSeq (tIfS (tTest (tOp oGt (tDGet (tVar 0) (tC (.str "rest"))) (tC (.int 1)))) (tSeq (tAsg (tOp oMod (tDGet (tVar 0) (tC (.str "rest"))) (tVar 1)) (gName 3))
  (tSeq (sDPut (tVar 0) (tC (.str "rest")) (tOp oDiv (tDGet (tVar 0) (tC (.str "rest"))) (tVar 1)))
  (tRet (tVar 3)))) tNext)
  (tSeq (tAsg (tIf (tTest (tOp (rEqT K true) (tVar 2) (tLst tNil))) (tOp (rIxL K) (tVar 2) (tOp oMod (tDGet (tVar 0) (tC (.str "turn"))) (tCB (rLen K) (tCons (tVar 2) tNil)))) (tC (.int 0))) (gName 4))
  (tSeq (sDPut (tVar 0) (tC (.str "turn")) (tOp oAdd (tDGet (tVar 0) (tC (.str "turn"))) (tC (.int 1))))
  (tSeq (sDPut (tVar 0) (tC (.str "more")) (tOp oMod (tOp oAdd (tOp oAdd (tOp oMul (tDGet (tVar 0) (tC (.str "more"))) (tC (.int 48271))) (tVar 4)) (tDGet (tVar 0) (tC (.str "turn")))) (tC (.int 2147483647))))
  (tRet (tOp oMod (tOp oMod (tOp oAdd (tOp oMul (tDGet (tVar 0) (tC (.str "more"))) (tDGet (tVar 0) (tC (.str "more")))) (tOp oMul (tC (.int 16807)) (tDGet (tVar 0) (tC (.str "more"))))) (tC (.int 2147483629))) (tVar 1)))))))))
theorem ev_draw {K : Fg} {W : Wd} {σ : SS} {te : TE} {i : Nat} {p : Addr} {n : Int} (h1 : σ[i]? = some (some (.ref p))) (hn : EvR (drd K p) K te σ W n) (h0 : 0 < n) (h2 : n < 1073741824) :
    EvP (drd K p) (tCall (sp__law_draw K) [] E0 (tCons (tVar i) (tCons te tNil))) σ W (fun v _ => ∃ r, v = .int r ∧ 0 ≤ r ∧ r < n) := fun W1 g1 Q k =>
  ⟨_, h1, hn W1 g1 _ fun u W2 g2 r => ⟨W2, p, n, rfl, by rw [show u = _ from r]; rfl, (show Sd K W2 p from g2.i), h0, h2, fun r W3 a b g s => k _ W3 (g2.trans ⟨g, s⟩) ⟨r, rfl, a, b⟩⟩⟩
section
variable {K : Fg} {vs : List V} {H : Hp} {Q : VK} {E : XK}
theorem rd__law_begun (h : sp__law_begun K vs H Q E) : t__law_begun K { nx := fun _ H' => Q .non H', rt := Q } (start n__law_begun vs) H := by
  obtain ⟨W, a, ns, rfl, rfl, hs, hl, k⟩ := h
  show t__law_begun K _ [some (.ref a), none] W.H
  intro p hp
  have g0 : Grow W (W.put p (.dK []) (W.free hp)) := W.grow_put hp
  have b0 : (W.put p (.dK []) (W.free hp)).B p = none := W.free hp
  have h0 : (W.put p (.dK []) (W.free hp)).H p = some (.dK []) := upd_same
  generalize hW1 : W.put p (.dK []) (W.free hp) = W1 at g0 b0 h0
  have hH : upd W.H p (.dK []) = W1.H := by rw [← hW1]; rfl
  rw [hH]
  have hs1 : SqL K W1.B a (ns.map V.int) := (exExt g0.b).l hs
  have hcl : (cutL ns none (some 63)).length ≤ 63 := Nat.le_trans cut_len hl
  have hlc : EvR pur K (tLc (iList K (tSl (rSlL K) (tVar 0) tNoPart (tPart (tC (.int 63))))) (gName 1) tYes (tCB rAbs (tCons (tVar 1) tNil)) [1]) [some (.ref a), none] W1 ((cutL ns none (some 63)).map fun n : Int => if n < 0 then -n else n) :=
    ev_lcN (EvJ.i (ei_list (ev_slS rfl hs1))) (fun x v W' hx g r => ev_cb1 (ev_var rfl r) rc_abs) (by omega)
  have e : ∀ (tk tv : TE) (r : List (TE × TE)) (σ : SS) (H : Hp) (Q : List (V × V) → Hp → Prop), tPairs ((tk, tv) :: r) σ H Q = tk σ H fun x H1 => tv σ H1 fun y H2 => tPairs r σ H2 fun ps H3 => Q ((x, y) :: ps) H3 := fun _ _ _ _ _ _ => rfl
  have tc : ∀ (v : V) (σ : SS) (H : Hp) (Q : VK), tC v σ H Q = Q v H := fun _ _ _ _ => rfl
  rw [e, tc]
  refine hlc W1 (.start trivial) _ fun cv W2 g2 rc => ?_
  have m2 := g2.pure.mut (by simp) h0 b0
  have e0 : ∀ (σ : SS) (H : Hp) (Q : List (V × V) → Hp → Prop), tPairs [] σ H Q = Q [] H := fun _ _ _ => rfl
  rw [e, tc, tc, e, tc, tc, e, tc, tc, e, tc]
  refine ⟨_, rfl, a, ns.map V.int, rfl, .inl (W2.sub.l ((exExt g2.md.b).l hs1)), 7, _, rfl, rfl, m2.1, sk cv 0 0 0 (7 + (ns.map V.int).length), rfl, by show 5 ≤ 15; decide, ?_⟩
  rw [merge_sk]
  have gp : Grow W1 W2 := g2.pure
  refine k p (W2.put p _ m2.2) (Md.fresh (S := []) g0 ((Grow.s gp).trans (md_put m2.2)) hp) ⟨cv, (cutL ns none (some 63)).map (fun n : Int => if n < 0 then -n else n), 0, 0, 0, _, m2.2, upd_same, rc, by rw [List.length_map]; exact hcl, fun x hx => ?_, by decide, by decide, by decide, by omega⟩ hp
  obtain ⟨n, _, rfl⟩ := List.mem_map.mp hx
  split <;> omega
theorem rd__law_draw (h : sp__law_draw K vs H Q E) : t__law_draw K { nx := fun _ H' => Q .non H', rt := Q } (start n__law_draw vs) H := by
  obtain ⟨W, p, n, rfl, rfl, s, hn, hn2, k⟩ := h
  obtain ⟨cv, cs, a, r, t, m, s⟩ := s.ex
  show t__law_draw K _ [some (.ref p), some (.int n), none, none, none] W.H
  have sl : ∀ {a r t m : Int}, (sk cv a r t m).length < 100000 := fun {a r t m} => by show 5 < 100000; decide
  -- cells = state['cells']
  refine q_asg (ε := pur) (K := K) (x := cs) (ev_dgetR rfl s.b s.h v_cells s.c) trivial fun v2 W1 g1 rc => ?_
  have s1 := s.g g1.pure (by simp)
  have o1 : On W W1 := g1.on
  -- the while
  have cont : ∀ (a r t m : Int) (W2 : Wd), Md [p] W W2 → SdV K W2 p cv cs a r t m → rep K W2.B v2 cs → (tSeq (tIfS (tTest (tOp oGt (tDGet (tVar 0) (tC (.str "rest"))) (tC (.int 1)))) (tSeq (tAsg (tOp oMod (tDGet (tVar 0) (tC (.str "rest"))) (tVar 1)) (gName 3))
      (tSeq (sDPut (tVar 0) (tC (.str "rest")) (tOp oDiv (tDGet (tVar 0) (tC (.str "rest"))) (tVar 1)))
      (tRet (tVar 3)))) tNext)
      (tSeq (tAsg (tIf (tTest (tOp (rEqT K true) (tVar 2) (tLst tNil))) (tOp (rIxL K) (tVar 2) (tOp oMod (tDGet (tVar 0) (tC (.str "turn"))) (tCB (rLen K) (tCons (tVar 2) tNil)))) (tC (.int 0))) (gName 4))
      (tSeq (sDPut (tVar 0) (tC (.str "turn")) (tOp oAdd (tDGet (tVar 0) (tC (.str "turn"))) (tC (.int 1))))
      (tSeq (sDPut (tVar 0) (tC (.str "more")) (tOp oMod (tOp oAdd (tOp oAdd (tOp oMul (tDGet (tVar 0) (tC (.str "more"))) (tC (.int 48271))) (tVar 4)) (tDGet (tVar 0) (tC (.str "turn")))) (tC (.int 2147483647))))
      (tRet (tOp oMod (tOp oMod (tOp oAdd (tOp oMul (tDGet (tVar 0) (tC (.str "more"))) (tDGet (tVar 0) (tC (.str "more")))) (tOp oMul (tC (.int 16807)) (tDGet (tVar 0) (tC (.str "more"))))) (tC (.int 2147483629))) (tVar 1))))))) { nx := fun _ H' => Q .non H', rt := Q } [some (.ref p), some (.int n), some v2, none, none] W2.H := fun a r t m W2 g2 s2 rc2 => by
    have vn : ∀ {W : Wd}, rep K W.B (V.int n) n := rfl
    refine q_when (ε := pur) (et_test (ev_op (ev_dgetR rfl s2.b s2.h v_rest (show rep K W2.B (.int r) r from rfl)) ev_int ro_B0)) trivial (fun hb W3 g3 => ?_) (fun hb W3 g3 => ?_)
    · have s3 := s2.g g3.pure (by simp)
      refine q_asg (ε := pur) (K := K) (x := r % n) (ev_op (ev_dgetR rfl s3.b s3.h v_rest (show rep K W3.B (.int r) r from rfl)) (ev_var rfl vn) (ro_I hn)) trivial fun v3 W4 g4 r4 => ?_
      have s4 := s3.g g4.pure (by simp)
      refine q_dputR (K := K) (x := r / n) rfl s4.b s4.h sl (ev_op (ev_dgetR rfl s4.b s4.h v_rest (show rep K W4.B (.int r) r from rfl)) (ev_var rfl vn) (ro_I ⟨hn, hn2⟩)) fun v5 W5 g5 o5 b5 h5 r5 => ?_
      rw [show v5 = _ from r5, p_rest] at h5
      refine s_ret (ε := pur) (K := K) (x := r % n) (ev_var rfl (rep_on o5 r4)) trivial fun u W6 g6 r6 => ?_
      rw [show u = _ from r6]
      refine k _ W6 (Int.emod_nonneg _ (by omega)) (Int.emod_lt_of_pos _ hn) (((g2.trans (Grow.s (g3.pure.trans g4.pure))).trans g5).trans (Grow.s g6.pure)) ?_
      exact Sd.g ⟨cv, cs, a, r / n, t, m, b5, h5, rep_on o5 s4.c, s2.l, s2.pos, s2.a0, Int.ediv_nonneg s2.r0 (by omega), s2.t0, s2.m0⟩ g6.pure
    · have s3 := s2.g g3.pure (by simp)
      have rc3 := rep_s g3 rc2
      -- cell
      have hcell : ∃ x : Int, 0 ≤ x ∧ EvR pur K (tIf (tTest (tOp (rEqT K true) (tVar 2) (tLst tNil))) (tOp (rIxL K) (tVar 2) (tOp oMod (tDGet (tVar 0) (tC (.str "turn"))) (tCB (rLen K) (tCons (tVar 2) tNil)))) (tC (.int 0))) [some (.ref p), some (.int n), some v2, none, none] W3 x := by
        by_cases hcs : cs = []
        · refine ⟨0, Int.le_refl _, ?_⟩
          refine (ev_if (K := K) (b := false) (x := (0 : Int)) (x' := (0 : Int)) ((et_test (ev_op (ev_var rfl rc3) (ev_lst ea_nil (by decide)) (ro_neT (by decide)))).is ?_) (fun z => by cases z) (fun _ => ev_int)).is rfl
          rw [hcs]
          rfl
        · have hlen : 0 < cs.length := List.length_pos_iff.mpr hcs
          have e1 := Int.emod_nonneg t (show (cs.length : Int) ≠ 0 by omega)
          have e2 := Int.emod_lt_of_pos t (show (0 : Int) < (cs.length : Int) by omega)
          obtain ⟨j, hj, hj2⟩ : ∃ j : Nat, t % (cs.length : Int) = (j : Int) ∧ j < cs.length := ⟨(t % (cs.length : Int)).toNat, by omega, by omega⟩
          refine ⟨cs[j], s2.pos _ (List.getElem_mem _), ?_⟩
          refine (ev_if (K := K) (b := true) (x := cs[j]) (x' := (0 : Int)) ((et_test (ev_op (ev_var rfl rc3) (ev_lst ea_nil (by decide)) (ro_neT (by decide)))).is ?_) (fun _ => ev_op (ev_var rfl rc3) (ev_op (ev_dgetR rfl s3.b s3.h v_turn (show rep K W3.B (.int t) t from rfl)) (ev_cb1 (ev_var rfl rc3) rc_len) (ro_I (by show (0 : Int) < (cs.length : Int); omega))) (ro_ixL ?_)) (fun z => by cases z)).is rfl
          · simp [hcs]
          · rw [hj]; exact atI_nat (by simp [hj2])
      obtain ⟨x, hx0, hx⟩ := hcell
      refine q_asg (ε := pur) (K := K) (x := x) hx trivial fun v4 W4 g4 r4 => ?_
      have s4 := s3.g g4.pure (by simp)
      refine q_dputR (K := K) (x := t + 1) rfl s4.b s4.h sl (ev_op (ev_dgetR rfl s4.b s4.h v_turn (show rep K W4.B (.int t) t from rfl)) ev_int ro_I0) fun v5 W5 g5 o5 b5 h5 r5 => ?_
      rw [show v5 = _ from r5, p_turn] at h5
      have m0 := Int.emod_nonneg (m * 48271 + x + (t + 1)) (show (2147483647 : Int) ≠ 0 by decide)
      refine q_dputR (K := K) (x := (m * 48271 + x + (t + 1)) % 2147483647) rfl b5 h5 sl (ev_op (ev_op (ev_op (ev_op (ev_dgetR rfl b5 h5 v_more (show rep K W5.B (.int m) m from rfl)) ev_int (ro_I (.inr ⟨by decide, by decide⟩))) (ev_var rfl (rep_on o5 r4)) ro_I0) (ev_dgetR rfl b5 h5 v_turn (show rep K W5.B (.int (t + 1)) (t + 1) from rfl)) ro_I0) ev_int (ro_I (by decide))) fun v6 W6 g6 o6 b6 h6 r6 => ?_
      rw [show v6 = _ from r6, p_more] at h6
      have vm : ∀ {W : Wd}, rep K W.B (V.int ((m * 48271 + x + (t + 1)) % 2147483647)) ((m * 48271 + x + (t + 1)) % 2147483647) := rfl
      have ml := Int.emod_lt_of_pos (m * 48271 + x + (t + 1)) (show (0 : Int) < 2147483647 by decide)
      refine s_ret (ε := pur) (K := K) (x := (((m * 48271 + x + (t + 1)) % 2147483647) * ((m * 48271 + x + (t + 1)) % 2147483647) + 16807 * ((m * 48271 + x + (t + 1)) % 2147483647)) % 2147483629 % n) (ev_op (ev_op (ev_op (ev_op (ev_dgetR rfl b6 h6 v_more vm) (ev_dgetR rfl b6 h6 v_more vm) (ro_I (.inl ⟨by omega, by omega⟩))) (ev_op ev_int (ev_dgetR rfl b6 h6 v_more vm) (ro_I (.inl ⟨by decide, by decide⟩))) ro_I0) ev_int (ro_I (by decide))) (ev_var rfl vn) (ro_I hn)) trivial fun u W7 g7 r7 => ?_
      rw [show u = _ from r7]
      refine k _ W7 (Int.emod_nonneg _ (by omega)) (Int.emod_lt_of_pos _ hn) ((((g2.trans (Grow.s (g3.pure.trans g4.pure))).trans g5).trans g6).trans (Grow.s g7.pure)) ?_
      exact Sd.g ⟨cv, cs, a, r, t + 1, _, b6, h6, rep_on o6 (rep_on o5 s4.c), s2.l, s2.pos, s2.a0, s2.r0, by have := s2.t0; omega, m0⟩ g7.pure
  refine s_while (ε := pur) (fun m' σ' W' => ∃ a r, σ' = [some (.ref p), some (.int n), some v2, none, none] ∧ Md [p] W W' ∧ SdV K W' p cv cs a r t m ∧ rep K W'.B v2 cs ∧ m' = ((cs.length : Int) - a).toNat) _ ⟨a, r, rfl, Grow.s g1.pure, s1, rc, rfl⟩ ?_
  rintro m' σ' W2 ⟨a, r, rfl, g2, s2, rc2, rfl⟩
  refine ⟨trivial, _, et_and (et_test (ev_op (ev_dgetR rfl s2.b s2.h v_rest (show rep K W2.B (.int r) r from rfl)) ev_int ro_B0)) (fun _ => et_test (ev_op (ev_dgetR rfl s2.b s2.h v_at (show rep K W2.B (.int a) a from rfl)) (ev_cb1 (ev_var rfl rc2) rc_len) ro_B0)), fun hb W3 g3 => ?_, fun hb W3 g3 => cont a r t m W3 (g2.trans (Grow.s g3.pure)) (s2.g g3.pure (by simp)) (rep_s g3 rc2)⟩
  have hb' : decide (a < (cs.length : Int)) = true := (Bool.and_eq_true_iff.mp hb).2
  have ha : a < (cs.length : Int) := of_decide_eq_true hb'
  have a0 := s2.a0
  obtain ⟨j, hj, hj2⟩ : ∃ j : Nat, a = (j : Int) ∧ j < cs.length := ⟨a.toNat, by omega, by omega⟩
  have s3 := s2.g g3.pure (by simp)
  have rc3 := rep_s g3 rc2
  have hcell : ∀ {W : Wd}, On W3 W → SdV K W p cv cs a r t m → EvR pur K (tOp (rIxL K) (tVar 2) (tDGet (tVar 0) (tC (.str "at")))) [some (.ref p), some (.int n), some v2, none, none] W cs[j] := fun {W} o s => ev_op (ev_var rfl (rep_on o rc3)) (ev_dgetR rfl s.b s.h v_at (show rep K W.B (.int a) a from rfl)) (ro_ixL (by rw [hj]; exact atI_nat (by simp [hj2])))
  have put : ∀ (D : Ends) (r : Int) (W4 : Wd), Md [p] W3 W4 → SdV K W4 p cv cs a r t m → (∀ W5, Md [p] W W5 → SdV K W5 p cv cs (a + 1) r t m → rep K W5.B v2 cs → D.nx [some (.ref p), some (.int n), some v2, none, none] W5.H) →
      sDPut (tVar 0) (tC (.str "at")) (tOp oAdd (tDGet (tVar 0) (tC (.str "at"))) (tC (.int 1))) D [some (.ref p), some (.int n), some v2, none, none] W4.H := fun D r W4 g4 s4 kk => by
    refine s_dputR (K := K) (x := a + 1) rfl s4.b s4.h sl (ev_op (ev_dgetR rfl s4.b s4.h v_at (show rep K W4.B (.int a) a from rfl)) ev_int ro_I0) fun v5 W5 g5 o5 b5 h5 r5 => ?_
    rw [show v5 = _ from r5, p_at] at h5
    exact kk W5 (((g2.trans (Grow.s g3.pure)).trans g4).trans g5) ⟨b5, h5, rep_on o5 s4.c, s4.l, s4.pos, by omega, s4.r0, s4.t0, s4.m0⟩ (rep_on o5 (rep_on g4.on rc3))
  refine q_when (ε := pur) (et_test (ev_op (hcell (.refl _) s3) (ev_op (x := (10 : Int)) (y := (18 : Int)) ev_int ev_int (ro_I (by exact ⟨by decide, by decide, by decide⟩))) ro_B0)) trivial (fun _ W4 g4 => ?_) (fun _ W4 g4 => put _ r W4 (Grow.s g4.pure) (s3.g g4.pure (by simp)) fun W5 g s rc => ⟨_, W5, by omega, rfl, a + 1, r, rfl, g, s, rc, rfl⟩)
  have s4 := s3.g g4.pure (by simp)
  refine s_dputR (K := K) (x := cs[j]) rfl s4.b s4.h sl (hcell g4.on s4) fun v5 W5 g5 o5 b5 h5 r5 => ?_
  rw [show v5 = _ from r5, p_rest] at h5
  exact put _ cs[j] W5 ((Grow.s g4.pure).trans g5) ⟨b5, h5, rep_on o5 s4.c, s4.l, s4.pos, s4.a0, s2.pos _ (List.getElem_mem _), s4.t0, s4.m0⟩ fun W6 g s rc => ⟨_, W6, by omega, rfl, a + 1, cs[j], rfl, g, s, rc, rfl⟩
end
end B
/-! numbers drawn for ladders -/
namespace B
open PySem L2
open PySem.W (Tup T3 T4 Datum DatumOrd)
open Evl (Ex)
def NumOk (n : Int) : Prop := 0 ≤ n ∧ n ≤ 1000000
def sp__law_number (K : Fg) : Sp := fun vs H Q _ => ∃ (W : Wd) (p : Addr) (way base : Int), W.H = H ∧ vs = [.ref p, .int way, .int base] ∧ Sd K W p ∧ 0 ≤ way ∧ way < 4 ∧ NumOk base ∧ ∀ (n : Int) W', NumOk n → Md [p] W W' → Sd K W' p → Q (.int n) W'.H
theorem len__law_number {K : Fg} {vs : List V} {H : Hp} {Q : VK} {E : XK} (h : sp__law_number K vs H Q E) : vs.length = ["_law_state", "_law_way", "_law_base"].length := by
  obtain ⟨W, p, way, base, _, rfl, _⟩ := h
  rfl
/-- _law_number: the slots 0 _law_state, 1 _law_way, 2 _law_base, 3 _law_ends, 4 _law_some -/
abbrev n__law_number : List Str := ["_law_state", "_law_way", "_law_base", "_law_ends", "_law_some"]
def t__law_number (K : Fg) : TS := (tSeq (tAsg (tLst (tCons (tC (.int 0)) (tCons (tOp oPow (tC (.int 10)) (tC (.int 6))) (tCons (tC (.int 1)) (tCons (tVar 2) tNil))))) (gName 3))
  (tSeq (tAsg (tLst (tCons (tCall (sp__law_draw K) [] E0 (tCons (tVar 0) (tCons (tC (.int 4)) tNil))) (tCons (tCall (sp__law_draw K) [] E0 (tCons (tVar 0) (tCons (tC (.int 1000001)) tNil))) (tCons (tOp (rIxL K) (tVar 3) (tCall (sp__law_draw K) [] E0 (tCons (tVar 0) (tCons (tC (.int 4)) tNil)))) tNil)))) (gName 4))
  (tRet (tOp (rIxL K) (tOp rCat (tVar 4) (tLst (tCons (tOp (rIxL K) (tVar 3) (tOp oMul (tC (.int 3)) (tCall (sp__law_draw K) [] E0 (tCons (tVar 0) (tCons (tC (.int 2)) tNil))))) tNil))) (tVar 1)))))
def sp__law_numbers (K : Fg) : Sp := fun vs H Q _ => ∃ (W : Wd) (p : Addr) (n : Nat), W.H = H ∧ vs = [.ref p, .int n] ∧ Sd K W p ∧ n ≤ 601 ∧ ∀ v (xs : List Int) W', Md [p] W W' → Sd K W' p → rep K W'.B v xs → xs.length = n → (∀ x ∈ xs, NumOk x) → Q v W'.H
theorem len__law_numbers {K : Fg} {vs : List V} {H : Hp} {Q : VK} {E : XK} (h : sp__law_numbers K vs H Q E) : vs.length = ["_law_state", "_law_many"].length := by
  obtain ⟨W, p, n, _, rfl, _⟩ := h
  rfl
/-- _law_numbers: the slots 0 _law_state, 1 _law_many, 2 _law_way, 3 _law_base, 4 _law_step, 5 _law_found, 6 _law_k, 7 _law_number_here -/
abbrev n__law_numbers : List Str := ["_law_state", "_law_many", "_law_way", "_law_base", "_law_step", "_law_found", "_law_k", "_law_number_here"]
def t__law_numbers (K : Fg) : TS := (tSeq (tPar3 2 3 4 (tCons (tCall (sp__law_draw K) [] E0 (tCons (tVar 0) (tCons (tC (.int 7)) tNil))) (tCons (tCall (sp__law_draw K) [] E0 (tCons (tVar 0) (tCons (tC (.int 1000001)) tNil))) (tCons (tOp oAdd (tC (.int 1)) (tCall (sp__law_draw K) [] E0 (tCons (tVar 0) (tCons (tC (.int 1600)) tNil)))) tNil))))
  (tSeq (tAsg (tLst tNil) (gName 5))
  (tSeq (tFor (iRng1 (tCons (tVar 1) tNil)) (gName 6)
  (tSeq (tAsg (tOp (rIxL K) (tLst (tCons (tOp oMul (tVar 6) (tVar 4)) (tCons (tOp oMul (tOp oSub (tOp oSub (tVar 1) (tC (.int 1))) (tVar 6)) (tVar 4)) (tCons (tVar 3) tNil)))) (tCB rMax2 (tCons (tC (.int 0)) (tCons (tOp oSub (tVar 2) (tC (.int 4))) tNil)))) (gName 7))
  (tDrop (tBM K "list" rAppend (tVar 5) (tCons (tIf (tTest (tOp oLt (tVar 2) (tC (.int 4)))) (tCall (sp__law_number K) [] E0 (tCons (tVar 0) (tCons (tVar 2) (tCons (tVar 3) tNil)))) (tVar 7)) tNil)))))
  (tRet (tVar 5)))))
theorem ev_drawL {K : Fg} {W : Wd} {σ : SS} {te : TE} {i : Nat} {p : Addr} {n : Int} (h1 : σ[i]? = some (some (.ref p))) (hn : EvR (drd K p) K te σ W n) (h0 : 0 < n) (h2 : n < 1073741824) :
    EvX (drd K p) K (tCall (sp__law_draw K) [] E0 (tCons (tVar i) (tCons te tNil))) σ W (fun r : Int => 0 ≤ r ∧ r < n) := fun W1 g1 Q k =>
  ev_draw h1 hn h0 h2 W1 g1 Q fun v W2 g2 ⟨r, e, h⟩ => k v W2 g2 ⟨r, h, e⟩
theorem q_parR3L {i j l : Nat} {ta tb tc : TE} {tz : TS} {D : Ends} {σ : SS} {H : Hp} (h : ta σ H fun v H1 => tb σ H1 fun u H2 => tc σ H2 fun w H3 => ∃ x y z, [v, u, w] = [x, y, z] ∧ tz D (((σ.set i (some x)).set j (some y)).set l (some z)) H3) : tSeq (tPar3 i j l (tCons ta (tCons tb (tCons tc tNil)))) tz D σ H := h
/-- xs.append(e), e drawn -/
theorem s_appendXL {K : Fg} {α : Type} [Py α] {W : Wd} {σ : SS} {D : Ends} {xs : List α} {P : α → Prop} {i : Nat} {d : Addr} {te : TE} {ε : Ef} (hd : σ[i]? = some (some (.ref d))) (m : LMut K W d xs) (hS : d ∉ ε.S) (s : ε.I W) (h : EvX ε K te σ W P) (hl : xs.length < 100000)
    (q : ∀ (y : α) (W1 W' : Wd), P y → Stp ε W W1 → Md [d] W1 W' → LMut K W' d (xs ++ [y]) → D.nx σ W'.H) : tDrop (tBM K "list" rAppend (tVar i) (tCons te tNil)) D σ W.H := by
  obtain ⟨vs, e, r⟩ := m.ex
  refine ⟨_, hd, .inl ⟨rfl, vs, SqL.of e⟩, h W (.start s) _ fun v W1 g1 ⟨y, hy, rv⟩ => ?_⟩
  obtain ⟨vs1, e1, r1⟩ := (m.g g1.md hS).ex
  have b1 := (m.g g1.md hS).b
  exact ⟨d, vs1, v, rfl, rfl, e1, by rw [Reps.len r1]; exact Evl.sz_lt hl, q y W1 (W1.put d _ b1) hy g1 (md_put b1) ⟨b1, _, upd_same, Reps.snoc r1 rv⟩⟩
/-- an item of drawn ones, at a drawn place -/
theorem ex_ixXL {K : Fg} {α : Type} [Py α] {W : Wd} {σ : SS} {ta tb : TE} {ε : Ef} {n : Nat} {P : α → Prop} (h : EvX ε K ta σ W (fun xs : List α => xs.length = n ∧ ∀ x ∈ xs, P x)) (hi : EvX ε K tb σ W (fun r : Int => 0 ≤ r ∧ r < n)) : EvX ε K (tOp (rIxL K) ta tb) σ W P :=
  ex_op h hi fun xs r ⟨hl, hp⟩ ⟨h0, h1⟩ => by
    obtain ⟨j, hj⟩ : ∃ j : Nat, r = (j : Int) := ⟨r.toNat, by omega⟩
    have hjl : j < xs.length := by omega
    exact ⟨xs[j], hp _ (List.getElem_mem _), ro_ixL (K := K) (x := xs[j]) (i := r) (by rw [hj]; exact atI_nat (List.getElem?_eq_getElem hjl))⟩
theorem ex_catX {K : Fg} {α : Type} [Py α] {W : Wd} {σ : SS} {ta tb : TE} {ε : Ef} {n m : Nat} {P : α → Prop} (h : EvX ε K ta σ W (fun xs : List α => xs.length = n ∧ ∀ x ∈ xs, P x)) (h2 : EvX ε K tb σ W (fun xs : List α => xs.length = m ∧ ∀ x ∈ xs, P x)) (hz : n + m ≤ 100000) : EvX ε K (tOp rCat ta tb) σ W (fun xs : List α => xs.length = n + m ∧ ∀ x ∈ xs, P x) :=
  ex_op h h2 fun xs ys ⟨l1, p1⟩ ⟨l2, p2⟩ => ⟨xs ++ ys, ⟨by rw [List.length_append, l1, l2], fun x hx => (List.mem_append.mp hx).elim (p1 x) (p2 x)⟩, ro_cat (by omega)⟩
section
variable {K : Fg} {vs : List V} {H : Hp} {Q : VK} {E : XK} {C : Addr}
theorem rd__law_number (h : sp__law_number K vs H Q E) : t__law_number K { nx := fun _ H' => Q .non H', rt := Q } (start n__law_number vs) H := by
  obtain ⟨W, p, way, base, rfl, rfl, s, w0, w1, hb, k⟩ := h
  have eI : ∀ {i : Int} {W : Wd}, rep K W.B (V.int i) i := rfl
  show tSeq _ _ _ [some (.ref p), some (.int way), some (.int base), none, none] W.H
  refine q_asg (ε := pur) (K := K) (x := [(0 : Int), (10 : Int) ^ (6 : Int).toNat, 1, base]) (ev_lst (ea_cons ev_int (ea_cons (ev_op ev_int ev_int (ro_I ⟨by decide, by decide, by decide⟩)) (ea_cons ev_int (ea_cons (ev_var (i := 2) rfl eI) ea_nil)))) (by show 4 ≤ 100000; decide)) trivial fun v3 W1 g1 r3 => ?_
  have s1 : Sd K W1 p := s.g g1.pure
  have inE : ∀ x ∈ [(0 : Int), (10 : Int) ^ (6 : Int).toNat, 1, base], NumOk x := fun x hx => by
    simp only [List.mem_cons, List.not_mem_nil, or_false] at hx
    rcases hx with rfl | rfl | rfl | rfl
    · exact ⟨by decide, by decide⟩
    · exact ⟨by decide, by decide⟩
    · exact ⟨by decide, by decide⟩
    · exact hb
  have ends : ∀ {W' : Wd} {σ : SS}, σ[3]? = some (some v3) → rep K W'.B v3 [(0 : Int), (10 : Int) ^ (6 : Int).toNat, 1, base] → EvX (drd K p) K (tVar 3) σ W' (fun xs : List Int => xs.length = 4 ∧ ∀ x ∈ xs, NumOk x) := fun hd r => ex_of (ev_var hd r) ⟨rfl, inE⟩
  show tSeq _ _ _ [some (.ref p), some (.int way), some (.int base), some v3, none] W1.H
  refine q_asgP (ε := drd K p) (W := W1) (σ := [some (.ref p), some (.int way), some (.int base), some v3, none]) (ex_lst (K := K) (n := 3) (P := NumOk) (exa_cons ((ev_drawL (i := 0) (p := p) (n := 4) rfl ev_int (by decide) (by decide)).imp fun x ⟨a, b⟩ => ⟨a, by omega⟩) (exa_cons ((ev_drawL (i := 0) (p := p) (n := 1000001) rfl ev_int (by decide) (by decide)).imp fun x ⟨a, b⟩ => ⟨a, by omega⟩) (exa_cons (ex_ixXL (n := 4) (ends rfl r3) (ev_drawL (i := 0) (p := p) (n := 4) rfl ev_int (by decide) (by decide))) exa_nil))) (by decide)) s1 fun v4 W2 g2 ⟨ys, hy, r4⟩ => ?_
  have s2 : Sd K W2 p := g2.i
  have r32 := rep_s g2 r3
  refine s_retP (ε := drd K p) (W := W2) (σ := [some (.ref p), some (.int way), some (.int base), some v3, some v4]) (ex_ixXL (K := K) (n := 4) (P := NumOk) (ex_catX (n := 3) (m := 1) (ex_of (ev_var (i := 4) rfl r4) hy) (ex_lst (n := 1) (P := NumOk) (exa_cons (ex_ixXL (n := 4) (ends rfl r32) (ex_op (P := fun x : Int => x = 3) (S := fun r : Int => 0 ≤ r ∧ r < 4) (ex_of ev_int rfl) (ev_drawL (i := 0) (p := p) (n := 2) rfl ev_int (by decide) (by decide)) fun x y hx ⟨y0, y1⟩ => ⟨x * y, ⟨by subst hx; omega, by subst hx; omega⟩, ro_I (.inl ⟨by subst hx; decide, by omega⟩)⟩)) exa_nil) (by decide)) (by decide)) (ex_of (ev_var (i := 1) rfl eI) ⟨w0, w1⟩)) s2 fun v W3 g3 ⟨n, hn, rn⟩ => ?_
  rw [show v = V.int n from rn]
  exact k n W3 hn (((Grow.s g1.pure).trans g2.md).trans g3.md) g3.i
theorem rd__law_numbers (h : sp__law_numbers K vs H Q E) : t__law_numbers K { nx := fun _ H' => Q .non H', rt := Q } (start n__law_numbers vs) H := by
  obtain ⟨W, p, n, rfl, rfl, s, hn, k⟩ := h
  have eI : ∀ {i : Int} {W : Wd}, rep K W.B (V.int i) i := rfl
  have vn : ∀ {W : Wd}, rep K W.B (V.int n) (n : Int) := rfl
  show tSeq _ _ _ [some (.ref p), some (.int n), none, none, none, none, none, none] W.H
  refine q_parR3L ?_
  refine ev_drawL (K := K) (σ := [some (.ref p), some (.int n), none, none, none, none, none, none]) (i := 0) (p := p) (n := 7) rfl ev_int (by decide) (by decide) W (.start s) _ fun v1 W1 g1 ⟨way, ⟨w0, w1⟩, e1⟩ => ?_
  rw [show v1 = V.int way from e1]
  refine ev_drawL (K := K) (σ := [some (.ref p), some (.int n), none, none, none, none, none, none]) (i := 0) (p := p) (n := 1000001) rfl ev_int (by decide) (by decide) W1 (.start g1.i) _ fun v2 W2 g2 ⟨base, ⟨b0, b1⟩, e2⟩ => ?_
  rw [show v2 = V.int base from e2]
  refine ex_op (K := K) (P := fun x : Int => x = 1) (S := fun r : Int => 1 ≤ r ∧ r ≤ 1600) (ex_of ev_int rfl) (ev_drawL (K := K) (σ := [some (.ref p), some (.int n), none, none, none, none, none, none]) (i := 0) (p := p) (n := 1600) rfl ev_int (by decide) (by decide)) (fun x y hx ⟨y0, y1⟩ => ⟨x + y, ⟨by subst hx; omega, by subst hx; omega⟩, ro_I0⟩) W2 (.start g2.i) _ fun v3 W3 g3 ⟨step, ⟨t0, t1⟩, e3⟩ => ⟨_, _, _, rfl, ?_⟩
  rw [show v3 = V.int step from e3]
  have s3 : Sd K W3 p := g3.i
  have M3 : Md [p] W W3 := (g1.md.trans g2.md).trans g3.md
  show tSeq _ _ _ [some (.ref p), some (.int n), some (.int way), some (.int base), some (.int step), none, none, none] W3.H
  refine q_asgL ?_
  refine en_lst (ε := pur) (K := K) (α := Int) (σ := [some (.ref p), some (.int n), some (.int way), some (.int base), some (.int step), none, none, none]) ea_nil (by decide) W3 (.start trivial) _ fun d vs3 W4 g4 f3 b3 h3 rs3 => ?_
  have m4 : LMut K W4 d ([] : List Int) := ⟨b3, vs3, h3, rs3⟩
  have s4 := s3.g g4.pure
  have ndp : d ≠ p := fun z => s3.dom (z ▸ f3)
  have fd : W.H d = none := was_noneL M3 f3
  show tSeq _ _ _ [some (.ref p), some (.int n), some (.int way), some (.int base), some (.int step), some (.ref d), none, none] W4.H
  refine q_for (ε := pur) (K := K) (xs := rng 0 n) (EvJ.toIs (ei_rng1 (n := (n : Int)) (ev_var (i := 1) rfl vn) (by omega) (by omega)) (by congr 1)) trivial fun W5 g5 =>
    ⟨fun i σ W' => ∃ (v6 v7 : Option V) (xs : List Int), σ = [some (.ref p), some (.int n), some (.int way), some (.int base), some (.int step), some (.ref d), v6, v7] ∧ On W5 W' ∧ Md [p] W W' ∧ Sd K W' p ∧ LMut K W' d xs ∧ xs.length = i ∧ (∀ x ∈ xs, NumOk x),
      ⟨none, none, [], rfl, .refl _, (M3.trans (Grow.s g4.pure)).trans (Grow.s g5.pure), s4.g g5.pure, m4.gr g5.pure, rfl, fun x hx => by simp at hx⟩, fun i σ' W' ⟨_, _, _, _, o, _⟩ => o, ?_, ?_⟩
  · rintro i t vx σ' W5' W6 hi hxi ⟨v6, v7, xs, rfl, o6', G6', s6', m6', hxl, hxs⟩ g6 rx
    rw [rng_len] at hi
    rw [rng_get hi] at hxi
    have ht : t = (i : Int) := by have := Option.some.inj hxi; omega
    subst ht
    have s6 := s6'.g g6
    have m6 := m6'.gr g6
    have o6 := o6'.trans g6.on
    have G6 := G6'.trans (Grow.s g6)
    rw [show vx = V.int (i : Int) from rx]
    show tSeq _ _ _ [some (.ref p), some (.int n), some (.int way), some (.int base), some (.int step), some (.ref d), some (.int i), v7] W6.H
    let z : Int := if (0 : Int) < way - 4 then way - 4 else 0
    have hz : 0 ≤ z ∧ z < 3 := by show 0 ≤ (if (0 : Int) < way - 4 then way - 4 else 0) ∧ (if (0 : Int) < way - 4 then way - 4 else 0) < 3; split <;> omega
    have p1 : 0 ≤ (i : Int) * step ∧ (i : Int) * step ≤ 1000000 := by
      have a1 := Int.mul_nonneg (show (0 : Int) ≤ i by omega) (show 0 ≤ step by omega)
      have a2 : (i : Int) * step ≤ 600 * 1600 := Int.mul_le_mul (by omega) t1 (by omega) (by decide)
      exact ⟨a1, by omega⟩
    have p2 : 0 ≤ ((n : Int) - 1 - i) * step ∧ ((n : Int) - 1 - i) * step ≤ 1000000 := by
      have a1 := Int.mul_nonneg (show (0 : Int) ≤ (n : Int) - 1 - i by omega) (show 0 ≤ step by omega)
      have a2 : ((n : Int) - 1 - i) * step ≤ 600 * 1600 := Int.mul_le_mul (by omega) t1 (by omega) (by decide)
      exact ⟨a1, by omega⟩
    have evF : EvX pur K (tOp (rIxL K) (tLst (tCons (tOp oMul (tVar 6) (tVar 4)) (tCons (tOp oMul (tOp oSub (tOp oSub (tVar 1) (tC (.int 1))) (tVar 6)) (tVar 4)) (tCons (tVar 3) tNil)))) (tCB rMax2 (tCons (tC (.int 0)) (tCons (tOp oSub (tVar 2) (tC (.int 4))) tNil)))) [some (.ref p), some (.int n), some (.int way), some (.int base), some (.int step), some (.ref d), some (.int i), v7] W6 NumOk := by
      refine ex_ixXL (n := 3) (ex_lst (n := 3) (P := NumOk) (exa_cons (ex_of (ev_op (ev_var (i := 6) rfl eI) (ev_var (i := 4) rfl eI) (ro_I (.inr ?_))) p1) (exa_cons (ex_of (ev_op (ev_op (ev_op (ev_var (i := 1) rfl vn) ev_int ro_I0) (ev_var (i := 6) rfl eI) ro_I0) (ev_var (i := 4) rfl eI) (ro_I (.inr ?_))) p2) (exa_cons (ex_of (ev_var (i := 3) rfl eI) ⟨b0, by omega⟩) exa_nil))) (by decide)) (ex_of (ev_cb2 (K := K) ev_int (ev_op (ev_var (i := 2) rfl eI) ev_int ro_I0) rc_max2) hz)
      all_goals exact ⟨by omega, by omega⟩
    refine q_asgP (ε := pur) evF trivial fun v8 W7 g7 ⟨fig, hfig, r8⟩ => ?_
    rw [show v8 = V.int fig from r8]
    have s7 := s6.g g7.pure
    have m7 := m6.gr g7.pure
    have hd7 : d ∉ (drd K p).S := by simp [drd, ndp]
    show tDrop _ _ [some (.ref p), some (.int n), some (.int way), some (.int base), some (.int step), some (.ref d), some (.int i), some (.int fig)] W7.H
    refine s_appendXL (K := K) (α := Int) (P := NumOk) (ε := drd K p) (i := 5) rfl m7 hd7 s7 (ex_if (b := decide (way < 4)) (et_test (ev_op (ev_var (i := 2) rfl eI) ev_int ro_B0))
      (fun hw => ?_) (fun _ => ex_of (ev_var (i := 7) rfl eI) hfig)) (by omega) fun y W8 W9 hy g8 g9 m9 => ?_
    · have hw := of_decide_eq_true hw
      intro W8 g8 Q k
      exact ⟨_, rfl, _, rfl, _, rfl, W8, p, way, base, rfl, rfl, g8.i, w0, hw, ⟨b0, by omega⟩, fun n W9 hn m9 s9 => k _ W9 ⟨m9, s9⟩ ⟨n, hn, rfl⟩⟩
    · refine ⟨W9, rfl, _, _, xs ++ [y], rfl, o6.trans (g7.on.trans (g8.on.trans g9.on)), Md.fresh ((G6.trans (Grow.s g7.pure)).trans g8.md) (g9.mono (by simp)) fd, (show Sd K W8 p from g8.i).off g9 (by simpa using ndp.symm), m9, by simp [hxl], fun x hx => ?_⟩
      rcases List.mem_append.mp hx with z | z
      · exact hxs x z
      · rw [List.mem_singleton.mp z]; exact hy
  · rintro σ' W6 ⟨v6, v7, xs, rfl, o6, G6, s6, m6, hxl, hxs⟩
    rw [rng_len] at hxl
    obtain ⟨ob, hob, rp, ex, md⟩ := m6.fix
    refine ⟨_, rfl, k _ xs (W6.fix d ob hob) (md W [p] G6 fd) ?_ rp hxl hxs⟩
    obtain ⟨cv, cs, a, r, t, m, s'⟩ := s6.ex
    exact ⟨cv, cs, a, r, t, m, (upd_ne ndp.symm).trans s'.b, s'.h, rex ex s'.c, s'.l, s'.pos, s'.a0, s'.r0, s'.t0, s'.m0⟩
end
end B
/-! B: dict(pairs) -/
namespace B
open PySem L2
open Evl (Ex)
abbrev rDictP (K : Fg) : List V → Hp → VK → Prop := fun xs H Q => ∃ (a : Addr) (ps : List Addr) (kvs : List (Key × V)), xs = [.ref a] ∧ SqL K H a (ps.map V.ref) ∧ Paired (fun p kv => SqT K H p [kV kv.1, kv.2]) ps kvs ∧ ∀ p, H p = none → Q (.ref p) (upd H p (.dK (mergeK [] kvs)))
section
variable {κ α : Type} [DecidableEq κ] [PyKV κ] [Py α] {K : Fg} {W : Wd} {σ : SS} {ε : Ef} {te : TE} {kv : List (κ × α)} {d : Addr}
theorem kreps_fill {H : Hp} {kvs : List (Key × V)} {xs : List (κ × α)} (r : KReps K H kvs xs) : KReps K H (mergeK [] kvs) (kfill xs) := by
  have go : ∀ {kvs : List (Key × V)} {xs : List (κ × α)}, KReps K H kvs xs → ∀ (a : List (Key × V)) (b : List (κ × α)), KReps K H a b → KReps K H (mergeK a kvs) (xs.foldl (fun kv e => kput kv e.1 e.2) b) := by
    intro kvs xs r
    induction r with
    | nil => exact fun a b h => h
    | @cons p q _ _ e _ ih =>
      intro a b h
      have : KReps K H (putK a p.1 p.2) (kput b q.1 q.2) := by rw [e.1]; exact h.put q.1 e.2
      exact ih _ _ this
  exact go r [] [] .nil
/-- dict(pairs) -/
theorem em_dictP {xs : List (κ × α)} (h : EvR ε K te σ W xs) : EvM ε K (tCB (rDictP K) (tCons te tNil)) σ W (kfill xs) := fun W1 g1 Q k => h W1 g1 _ fun v W2 g2 ⟨a, vs, e, s, r⟩ => by
  have : ∀ {vs : List V} {xs : List (κ × α)}, Reps K W2.B vs xs → ∃ (ps : List Addr) (kvs : List (Key × V)), vs = ps.map V.ref ∧ Paired (fun p (kv : Key × V) => SqT K W2.H p [kV kv.1, kv.2]) ps kvs ∧ KReps K W2.B kvs xs := by
    intro vs xs r
    induction r with
    | nil => exact ⟨[], [], rfl, .nil, .nil⟩
    | @cons v x _ _ h _ ih =>
      obtain ⟨b, y, z, e1, e2, e3, e4⟩ := h
      obtain ⟨ps, kvs, f1, f2, f3⟩ := ih
      have ey : y = kV (PyKey.key x.1) := PyKV.keyv e3
      exact ⟨b :: ps, (PyKey.key x.1, z) :: kvs, by rw [e1, f1]; rfl, .cons (SqT.of (W2.sub.et (by rw [e2, ey]))) f2, .cons ⟨rfl, e4⟩ f3⟩
  obtain ⟨ps, kvs, f1, f2, f3⟩ := this r
  exact ⟨a, ps, kvs, by rw [e], by rw [← f1]; exact SqL.of (W2.sub.el s), f2, fun p hp => k p (W2.put p _ (W2.free hp)) (g2.and (W2.grow_put hp)) (was_noneL g2.md hp) ⟨W2.free hp, _, upd_same, kreps_fill f3⟩⟩
end
end B
/-! k51, plainly: two ladders poured together; a row that leaves any ladder -/
namespace B
open PySem L2
open PySem.W (Tup T3 T4 Datum DatumOrd)
def NumR (n : Int) : Prop := 0 ≤ n ∧ n ≤ 1000000
structure RGood (w : Nat) (r : Tup Int) : Prop where
  ln : r.items.length = w
  pw : r.items.Pairwise (· ≤ ·)
  nm : ∀ x ∈ r.items, NumR x
structure Lok (w : Nat) (S : List Int × Stp1) : Prop where
  w1 : 1 ≤ w
  w8 : w ≤ 8
  fl : S.1.length < w
  fn : ∀ x ∈ S.1, NumR x
  k : StK S.2
  rg : ∀ q ∈ S.2, RGood w q.2
theorem sort_uniqI {xs ys : List Int} (hp : ys.Perm xs) (ho : ys.Pairwise (· ≤ ·)) : sortI xs = ys :=
  ((sortI_perm xs).trans hp.symm).eq_of_pairwise (fun a b _ _ h h' => Int.le_antisymm h h') (sortI_pw xs) ho
theorem sort_self {xs : List Int} (ho : xs.Pairwise (· ≤ ·)) : sortI xs = xs := sort_uniqI (List.Perm.refl _) ho
theorem sort_congrI {xs ys : List Int} (h : xs.Perm ys) : sortI xs = sortI ys := sort_uniqI ((sortI_perm ys).trans h.symm) (sortI_pw ys)
theorem fm_congr {α β : Type} {f g : α → Option β} : ∀ {l : List α}, (∀ x ∈ l, f x = g x) → l.filterMap f = l.filterMap g
  | [], _ => rfl
  | x :: l, h => by
    have ih := fm_congr (f := f) (g := g) (l := l) fun y hy => h y (List.mem_cons_of_mem _ hy)
    rw [List.filterMap_cons, List.filterMap_cons, h x List.mem_cons_self, ih]
theorem nd_map {α β : Type} {f : α → β} {l : List α} (h : (l.map f).Nodup) : l.Nodup := (List.pairwise_map.mp h).imp fun {a b} h e => h (by rw [e])
theorem asOne_good {w : Nat} {a b : Tup Int} (h8 : w ≤ 8) (ha : RGood w a) (hb : RGood w b) : RGood w ⟨asOne a.items b.items⟩ := by
  have hl : (sortI (a.items ++ b.items)).length = w + w := by rw [(sortI_perm _).length_eq, List.length_append, ha.ln, hb.ln]
  have e : asOne a.items b.items = (List.range w).filterMap fun i => (sortI (a.items ++ b.items))[2 * i + 1]? := by
    unfold asOne
    rw [pickL_odd _ (by omega), hl, show (w + w) / 2 = w by omega]
  have e2 : asOne a.items b.items = (List.range w).map fun i => ((sortI (a.items ++ b.items))[2 * i + 1]?).getD 0 := by
    rw [e, ← List.filterMap_eq_map]
    refine fm_congr fun i hi => ?_
    have hi := List.mem_range.mp hi
    have : 2 * i + 1 < (sortI (a.items ++ b.items)).length := by omega
    simp [List.getElem?_eq_getElem this]
  refine ⟨by rw [e2, List.length_map, List.length_range], ?_, fun x hx => ?_⟩
  · rw [e2, List.pairwise_map]
    refine List.Pairwise.imp_of_mem (fun {i j} hi hj h => ?_) List.pairwise_lt_range
    have hi := List.mem_range.mp hi
    have hj := List.mem_range.mp hj
    have a1 : 2 * i + 1 < (sortI (a.items ++ b.items)).length := by omega
    have a2 : 2 * j + 1 < (sortI (a.items ++ b.items)).length := by omega
    rw [List.getElem?_eq_getElem a1, List.getElem?_eq_getElem a2]
    exact List.pairwise_iff_getElem.mp (sortI_pw _) _ _ a1 a2 (by omega)
  · have hx : x ∈ asOne a.items b.items := hx
    rw [e] at hx
    obtain ⟨i, _, hi⟩ := List.mem_filterMap.mp hx
    have := (sortI_perm _).mem_iff.mp (List.mem_of_getElem? hi)
    exact (List.mem_append.mp this).elim (ha.nm x) (hb.nm x)
theorem dup_pw : ∀ {r : List Int}, r.Pairwise (· ≤ ·) → (r.flatMap fun x => [x, x]).Pairwise (· ≤ ·)
  | [], _ => by simp
  | x :: r, h => by
    rw [List.pairwise_cons] at h
    have ih := dup_pw h.2
    have up : ∀ y ∈ r.flatMap (fun x => [x, x]), x ≤ y := fun y hy => by
      obtain ⟨z, hz, hy⟩ := List.mem_flatMap.mp hy
      have : y = z := by simpa using hy
      rw [this]; exact h.1 z hz
    rw [List.flatMap_cons]
    refine List.pairwise_cons.mpr ⟨fun y hy => ?_, List.pairwise_cons.mpr ⟨up, ih⟩⟩
    rcases List.mem_cons.mp hy with rfl | hy
    · exact Int.le_refl _
    · exact up y hy
theorem dup_perm : ∀ r : List Int, (r.flatMap fun x => [x, x]).Perm (r ++ r)
  | [] => List.Perm.refl _
  | x :: r => by
    rw [List.flatMap_cons, List.cons_append]
    refine List.Perm.cons x ?_
    exact ((dup_perm r).cons x).trans (List.perm_middle (l₁ := r) (l₂ := r) (a := x)).symm
theorem dup_at : ∀ (r : List Int) (i : Nat), (r.flatMap fun x => [x, x])[2 * i + 1]? = r[i]?
  | [], i => by simp
  | x :: r, 0 => by simp
  | x :: r, i + 1 => by
    rw [List.flatMap_cons, show 2 * (i + 1) + 1 = (2 * i + 1) + 2 by omega]
    show ((r.flatMap fun x => [x, x])[2 * i + 1]?) = r[i]?
    exact dup_at r i
theorem asOne_same {w : Nat} {r : List Int} (h8 : w ≤ 8) (ln : r.length = w) (pw : r.Pairwise (· ≤ ·)) : asOne r r = r := by
  have e : sortI (r ++ r) = r.flatMap fun x => [x, x] := sort_uniqI (dup_perm r) (dup_pw pw)
  have hl : (r.flatMap fun x => [x, x]).length = w + w := by rw [(dup_perm r).length_eq, List.length_append, ln]
  unfold asOne
  rw [e, pickL_odd _ (by omega), hl, show (w + w) / 2 = w by omega]
  rw [show (List.range w).filterMap (fun i => (r.flatMap fun x => [x, x])[2 * i + 1]?) = (List.range w).filterMap fun i => r[i]? from fm_congr fun i _ => dup_at r i]
  apply List.ext_getElem?
  intro i
  have e3 : (List.range w).filterMap (fun i => r[i]?) = (List.range w).map fun i => (r[i]?).getD 0 := by
    rw [← List.filterMap_eq_map]
    refine fm_congr fun i hi => ?_
    have hi := List.mem_range.mp hi
    have : i < r.length := by omega
    simp [List.getElem?_eq_getElem this]
  rw [e3, List.getElem?_map]
  by_cases c : i < w
  · have : i < r.length := by omega
    rw [List.getElem?_range c]
    simp [List.getElem?_eq_getElem this]
  · rw [List.getElem?_eq_none (by rw [List.length_range]; omega), List.getElem?_eq_none (by omega)]
    rfl
/-! feeding whole blocks -/
theorem feed_pre {w : Nat} {st : Stp1} : ∀ (q p : List Int), q ≠ [] → p.length + q.length = w → q.foldl (feedF w) (p, st) = ([], carry st.length st 0 (sortI (p ++ q)))
  | [x], p, _, h => by
    simp only [List.foldl_cons, List.foldl_nil, feedF]
    rw [if_pos (by rw [List.length_append]; exact h)]
  | x :: y :: q, p, _, h => by
    rw [List.foldl_cons]
    simp only [List.length_cons] at h
    have e : feedF w (p, st) x = (p ++ [x], st) := by
      unfold feedF
      rw [if_neg (by rw [List.length_append, List.length_singleton]; show ¬ p.length + 1 = w; omega)]
    rw [e, feed_pre (y :: q) (p ++ [x]) (by simp) (by simp only [List.length_append, List.length_cons, List.length_nil]; omega), List.append_assoc]
    rfl
theorem feed_few {w : Nat} {st : Stp1} : ∀ (q p : List Int), p.length + q.length < w → q.foldl (feedF w) (p, st) = (p ++ q, st)
  | [], p, _ => by simp
  | x :: q, p, h => by
    simp only [List.length_cons] at h
    rw [List.foldl_cons]
    have e : feedF w (p, st) x = (p ++ [x], st) := by
      unfold feedF
      rw [if_neg (by rw [List.length_append, List.length_singleton]; show ¬ p.length + 1 = w; omega)]
    rw [e, feed_few q (p ++ [x]) (by rw [List.length_append, List.length_singleton]; omega), List.append_assoc]
    rfl
theorem kdrop_new {st : Stp1} {h : Int} {x : Tup Int} (e : klook st h = none) : kdrop (kput st h x) h = st := by
  have no := klook_none.mp e
  rw [kput_new no]
  unfold kdrop
  rw [List.filter_append]
  have e1 : ∀ q ∈ st, q.1 ≠ h := fun q hq z => no (List.mem_map.mpr ⟨q, hq, z⟩)
  rw [List.filter_eq_self.mpr fun q hq => by simp [e1 q hq]]
  simp
theorem feed_copies {w : Nat} (h1 : 1 ≤ w) (h8 : w ≤ 8) {r : Tup Int} (g : RGood w r) : ∀ (h : Nat) {st : Stp1}, (∀ q ∈ st, (h : Int) ≤ q.1) → ((List.replicate (2 ^ h) r.items).flatten).foldl (feedF w) ([], st) = ([], carry st.length st (h : Int) r.items)
  | 0, st, _ => by
    rw [Nat.pow_zero, List.replicate_one, List.flatten_singleton, feed_pre r.items [] (fun z => by have := g.ln; rw [z] at this; simp at this; omega) (by rw [g.ln]; simp), List.nil_append, sort_self g.pw]
    rfl
  | h + 1, st, hk => by
    have no : klook st (h : Int) = none := klook_none.mpr fun z => by
      obtain ⟨q, hq, e⟩ := List.mem_map.mp z
      have := hk q hq
      push_cast at this
      omega
    have hk' : ∀ q ∈ st, (h : Int) ≤ q.1 := fun q hq => by have := hk q hq; push_cast at this; omega
    rw [show 2 ^ (h + 1) = 2 ^ h + 2 ^ h by rw [Nat.pow_succ]; omega, ← List.replicate_append_replicate, List.flatten_append, List.foldl_append, feed_copies h1 h8 g h hk', carry_none no,
      feed_copies h1 h8 g h (st := kput st (h : Int) ⟨r.items⟩) fun q hq => (kput_mem hq).elim (hk' q) fun e => by rw [e]; exact Int.le_refl _]
    have hlen : (kput st (h : Int) (⟨r.items⟩ : Tup Int)).length = st.length + 1 := by rw [kput_new (klook_none.mp no), List.length_append]; rfl
    rw [hlen]
    simp only [carry]
    rw [klook_put, if_pos rfl]
    simp only [asOne_same h8 g.ln g.pw]
    rw [kdrop_new no]
    push_cast
    rfl
def rowsOf (st : Stp1) : List Int := st.flatMap fun q => (List.replicate (2 ^ q.1.toNat) q.2.items).flatten
theorem feed_rows {w : Nat} (h1 : 1 ≤ w) (h8 : w ≤ 8) : ∀ (l acc : Stp1), (acc ++ l).Pairwise (fun a b => b.1 < a.1) → (∀ q ∈ l, 0 ≤ q.1 ∧ RGood w q.2) → (rowsOf l).foldl (feedF w) ([], acc) = ([], acc ++ l)
  | [], acc, _, _ => by simp [rowsOf]
  | q :: l, acc, hp, hq => by
    obtain ⟨h0, g⟩ := hq q List.mem_cons_self
    have hacc : ∀ z ∈ acc, q.1 < z.1 := fun z hz => (List.pairwise_append.mp hp).2.2 z hz q List.mem_cons_self
    have eh : ((q.1.toNat : Nat) : Int) = q.1 := Int.toNat_of_nonneg h0
    have no : klook acc q.1 = none := klook_none.mpr fun z => by
      obtain ⟨y, hy, e⟩ := List.mem_map.mp z
      have := hacc y hy
      omega
    have e1 : rowsOf (q :: l) = (List.replicate (2 ^ q.1.toNat) q.2.items).flatten ++ rowsOf l := by unfold rowsOf; rw [List.flatMap_cons]
    rw [e1, List.foldl_append, feed_copies h1 h8 g q.1.toNat (fun z hz => by rw [eh]; exact Int.le_of_lt (hacc z hz)), eh, carry_none no, kput_new (klook_none.mp no)]
    have := feed_rows h1 h8 l (acc ++ [(q.1, ⟨q.2.items⟩)]) (by rw [List.append_assoc]; exact hp) fun z hz => hq z (List.mem_cons_of_mem _ hz)
    rw [this, List.append_assoc]
    rfl
theorem rungsL_keys (st : Stp1) : (rungsL st).map (·.1) = sortI (st.map (·.1)) := by
  unfold rungsL
  rw [List.map_map]
  exact List.map_id _
theorem rungsL_mem {st : Stp1} (k : StK st) (q : Int × Tup Int) : q ∈ rungsL st ↔ q ∈ st := by
  unfold rungsL
  constructor
  · intro h
    obtain ⟨z, hz, rfl⟩ := List.mem_map.mp h
    obtain ⟨p, hp, rfl⟩ := List.mem_map.mp ((sortI_perm _).mem_iff.mp hz)
    rw [klook_memN k.nd p hp]
    exact hp
  · intro h
    refine List.mem_map.mpr ⟨q.1, (sortI_perm _).mem_iff.mpr (List.mem_map.mpr ⟨q, h, rfl⟩), ?_⟩
    rw [klook_memN k.nd q h]
    rfl
/-- a row that leaves it -/
def plainL (S : List Int × Stp1) : List Int := rowsOf (rungsL S.2).reverse ++ S.1
theorem plain_ok {w : Nat} {S : List Int × Stp1} (h : Lok w S) : Sok w (plainL S) S := by
  have ndr : ((rungsL S.2).map (·.1)).Nodup := by rw [rungsL_keys]; exact (sortI_perm _).nodup_iff.mpr h.k.nd
  have pwr : (rungsL S.2).reverse.Pairwise (fun a b => b.1 < a.1) := by
    rw [List.pairwise_reverse]
    have := sort_strict h.k.nd
    rw [← rungsL_keys, List.pairwise_map] at this
    exact this
  have e1 := feed_rows h.w1 h.w8 (rungsL S.2).reverse [] (by simpa using pwr) fun q hq => by
    have hq := (rungsL_mem h.k q).mp (List.mem_reverse.mp hq)
    exact ⟨h.k.nn q hq, h.rg q hq⟩
  have e2 : (plainL S).foldl (feedF w) ([], []) = (S.1, (rungsL S.2).reverse) := by
    unfold plainL
    rw [List.foldl_append, e1, List.nil_append, feed_few S.1 [] (by simpa using h.fl), List.nil_append]
  have so := sok_feedL h.w1 (plainL S) [] ([], []) (sok_nil h.w1)
  rw [List.nil_append, e2] at so
  refine ⟨so.fr, h.k, fun z => ?_⟩
  rw [← so.lk z]
  have ndr2 : ((rungsL S.2).reverse.map (·.1)).Nodup := by rw [List.map_reverse]; exact (List.reverse_perm _).nodup_iff.mpr ndr
  cases e : klook S.2 (z : Int) with
  | some v => exact (klook_memN ndr2 (z, v) (List.mem_reverse.mpr ((rungsL_mem h.k _).mpr (klook_mem e)))).symm
  | none =>
    symm
    refine klook_none.mpr fun hz => klook_none.mp e ?_
    rw [List.map_reverse, List.mem_reverse, rungsL_keys] at hz
    exact (sortI_perm _).mem_iff.mp hz
theorem rows_len {w : Nat} : ∀ l : Stp1, (∀ q ∈ l, q.2.items.length = w) → ((rowsOf l).length : Int) = (l.map fun q => (w : Int) * (2 : Int) ^ q.1.toNat).sum
  | [], _ => rfl
  | q :: l, h => by
    have ih := rows_len l fun z hz => h z (List.mem_cons_of_mem _ hz)
    have e1 : rowsOf (q :: l) = (List.replicate (2 ^ q.1.toNat) q.2.items).flatten ++ rowsOf l := by unfold rowsOf; rw [List.flatMap_cons]
    have e2 : ((List.replicate (2 ^ q.1.toNat) q.2.items).flatten).length = 2 ^ q.1.toNat * w := by
      rw [List.length_flatten, List.map_replicate, List.sum_replicate_nat, h q List.mem_cons_self]
    rw [e1, List.length_append, e2, List.map_cons, List.sum_cons, ← ih]
    push_cast
    rw [Int.mul_comm]
theorem rungs_perm {st : Stp1} (k : StK st) : (rungsL st).Perm st := by
  have ndr : ((rungsL st).map (·.1)).Nodup := by rw [rungsL_keys]; exact (sortI_perm _).nodup_iff.mpr k.nd
  exact (List.perm_ext_iff_of_nodup (nd_map ndr) (nd_map k.nd)).mpr (rungsL_mem k)
theorem plain_len {w : Nat} {S : List Int × Stp1} (h : Lok w S) : ((plainL S).length : Int) = fedS w S := by
  unfold plainL fedS
  rw [List.length_append]
  have e := rows_len (w := w) (rungsL S.2).reverse fun q hq => (h.rg q ((rungsL_mem h.k q).mp (List.mem_reverse.mp hq))).ln
  have p := perm_sumZ ((((List.reverse_perm (rungsL S.2)).trans (rungs_perm h.k)).map fun q => (w : Int) * (2 : Int) ^ q.1.toNat))
  push_cast
  omega
theorem plain_num {w : Nat} {S : List Int × Stp1} (h : Lok w S) : ∀ x ∈ plainL S, NumR x := fun x hx => by
  rcases List.mem_append.mp hx with hx | hx
  · obtain ⟨q, hq, hx⟩ := List.mem_flatMap.mp hx
    obtain ⟨r, hr, hx⟩ := List.mem_flatten.mp hx
    rw [List.eq_of_mem_replicate hr] at hx
    exact (h.rg q ((rungsL_mem h.k q).mp (List.mem_reverse.mp hq))).nm x hx
  · exact h.fn x hx
/-! what was fed is so -/
theorem RG_good {w : Nat} (h8 : w ≤ 8) {B : Nat → List Int} : ∀ (h i : Nat), (∀ j, j < 2 ^ h → (B (i + j)).length = w ∧ ∀ x ∈ B (i + j), NumR x) → RGood w ⟨RG B h i⟩
  | 0, i, hB => by
    obtain ⟨h1, h2⟩ := hB 0 (by decide)
    exact ⟨by show (sortI (B i)).length = w; rw [(sortI_perm _).length_eq]; exact h1, sortI_pw _, fun x hx => h2 x ((sortI_perm _).mem_iff.mp hx)⟩
  | h + 1, i, hB => by
    have p : 2 ^ (h + 1) = 2 ^ h + 2 ^ h := by rw [Nat.pow_succ]; omega
    exact asOne_good h8 (RG_good h8 h i fun j hj => hB j (by omega)) (RG_good h8 h (i + 2 ^ h) fun j hj => by rw [Nat.add_assoc]; exact hB (2 ^ h + j) (by omega))
theorem sok_lok {w : Nat} {xs : List Int} {S : List Int × Stp1} (h1 : 1 ≤ w) (h8 : w ≤ 8) (so : Sok w xs S) (hx : ∀ x ∈ xs, NumR x) : Lok w S := by
  have hm := Nat.div_add_mod xs.length w
  have hl := Nat.mod_lt xs.length h1
  have hc : w * (xs.length / w) = xs.length / w * w := Nat.mul_comm _ _
  refine ⟨h1, h8, ?_, fun x h => ?_, so.k, fun q hq => ?_⟩
  · rw [so.fr, List.length_drop]
    omega
  · rw [so.fr] at h
    exact hx x (List.mem_of_mem_drop h)
  · obtain ⟨k, e, b, e2⟩ := lk_key so.k so.lk hq
    rw [e2]
    have bt := bit_top b
    refine RG_good h8 k _ fun j hj => ⟨?_, fun x hx2 => ?_⟩
    · have hi : top2 (xs.length / w) k + j + 1 ≤ xs.length / w := by omega
      have := Nat.mul_le_mul_right w hi
      rw [Nat.succ_mul] at this
      unfold blk
      rw [List.length_take, List.length_drop]
      omega
    · unfold blk at hx2
      exact hx x (List.mem_of_mem_drop (List.mem_of_mem_take hx2))
theorem lok_feed {w : Nat} {S : List Int × Stp1} (h : Lok w S) {n : Int} (hn : NumR n) : Lok w (feedF w S n) ∧ fedS w (feedF w S n) = fedS w S + 1 := by
  have so := sok_feed h.w1 (plain_ok h) n
  have l2 : Lok w (feedF w S n) := sok_lok h.w1 h.w8 so fun x hx => (List.mem_append.mp hx).elim (plain_num h x) fun e => by rw [List.mem_singleton.mp e]; exact hn
  refine ⟨l2, ?_⟩
  have e1 := plain_len h
  have e2 := plain_len l2
  have so2 := plain_ok l2
  -- both rows leave the same: as long
  have b1 : (plainL (feedF w S n)).length / w * w + (plainL (feedF w S n)).length % w = (plainL (feedF w S n)).length := by rw [Nat.mul_comm]; exact Nat.div_add_mod _ _
  have b2 : (plainL S ++ [n]).length / w * w + (plainL S ++ [n]).length % w = (plainL S ++ [n]).length := by rw [Nat.mul_comm]; exact Nat.div_add_mod _ _
  have f1 := congrArg List.length so.fr
  have f2 := congrArg List.length so2.fr
  rw [List.length_drop] at f1 f2
  have hbit : ∀ k : Nat, bit ((plainL S ++ [n]).length / w) k ↔ bit ((plainL (feedF w S n)).length / w) k := fun k => by
    have k1 := so.lk k
    have k2 := so2.lk k
    by_cases c : bit ((plainL S ++ [n]).length / w) k
    · rw [if_pos c] at k1
      by_cases d : bit ((plainL (feedF w S n)).length / w) k
      · exact ⟨fun _ => d, fun _ => c⟩
      · rw [if_neg d, k1] at k2
        cases k2
    · rw [if_neg c] at k1
      by_cases d : bit ((plainL (feedF w S n)).length / w) k
      · rw [if_pos d, k1] at k2
        cases k2
      · exact ⟨fun z => absurd z c, fun z => absurd z d⟩
  have em : (plainL S ++ [n]).length / w = (plainL (feedF w S n)).length / w := Nat.eq_of_testBit_eq fun k => by
    have := hbit k
    unfold bit at this
    rw [Nat.testBit_eq_decide_div_mod_eq, Nat.testBit_eq_decide_div_mod_eq]
    exact decide_eq_decide.mpr this
  rw [em] at f1 b2
  have el : (plainL S ++ [n]).length = (plainL S).length + 1 := by simp
  omega
/-! ### two ladders poured together -/
def asT (a b : Tup Int) : Tup Int := ⟨asOne a.items b.items⟩
/-- the rung that stays, and the one that is carried -/
def stepP : Option (Tup Int) → Option (Tup Int) → Option (Tup Int) → Option (Tup Int) × Option (Tup Int)
  | none, none, c => (c, none)
  | some x, none, none => (some x, none)
  | none, some y, none => (some y, none)
  | some x, none, some z => (none, some (asT x z))
  | none, some y, some z => (none, some (asT y z))
  | some x, some y, c => (c, some (asT x y))
def rungsAt (a b c : Option (Tup Int)) : List (Tup Int) := a.toList ++ b.toList ++ c.toList
def addF (st st' : Stp1) : Nat → Stp1 × Option (Tup Int)
  | 0 => ([], none)
  | h + 1 => (match (stepP (klook st (h : Int)) (klook st' (h : Int)) (addF st st' h).2).1 with
      | some r => kput (addF st st' h).1 (h : Int) r
      | none => (addF st st' h).1, (stepP (klook st (h : Int)) (klook st' (h : Int)) (addF st st' h).2).2)
def pourS (w : Nat) (S S' : List Int × Stp1) : List Int × Stp1 := (sortI S'.1).foldl (feedF w) (S.1, (addF S.2 S'.2 12).1)
def cnt (o : Option (Tup Int)) : Int := if o.isSome then 1 else 0
theorem step_cnt (a b c : Option (Tup Int)) : cnt a + cnt b + cnt c = cnt (stepP a b c).1 + 2 * cnt (stepP a b c).2 := by
  cases a <;> cases b <;> cases c <;> rfl
theorem step_good {w : Nat} (h8 : w ≤ 8) {a b c : Option (Tup Int)} (ha : ∀ r, a = some r → RGood w r) (hb : ∀ r, b = some r → RGood w r) (hc : ∀ r, c = some r → RGood w r) :
    (∀ r, (stepP a b c).1 = some r → RGood w r) ∧ (∀ r, (stepP a b c).2 = some r → RGood w r) := by
  cases a <;> cases b <;> cases c <;> refine ⟨fun r h => ?_, fun r h => ?_⟩ <;> simp only [stepP, Option.some.injEq, reduceCtorEq] at h <;> subst h <;>
    first
      | exact ha _ rfl
      | exact hb _ rfl
      | exact hc _ rfl
      | exact asOne_good h8 (ha _ rfl) (hb _ rfl)
      | exact asOne_good h8 (ha _ rfl) (hc _ rfl)
      | exact asOne_good h8 (hb _ rfl) (hc _ rfl)
theorem step_list (a b c : Option (Tup Int)) : (stepP a b c).2.toList = (if 1 < (rungsAt a b c).length then ((rungsAt a b c).take 2 |> fun l => match l with | [x, y] => [asT x y] | _ => []) else []) ∧ (stepP a b c).1.toList = (if 1 < (rungsAt a b c).length then (rungsAt a b c).drop 2 else rungsAt a b c) := by
  cases a <;> cases b <;> cases c <;> exact ⟨rfl, rfl⟩
def wAt (w : Nat) (st : Stp1) (k : Nat) : Int := cnt (klook st (k : Int)) * ((w : Int) * (2 : Int) ^ k)
def Wt (w : Nat) (st : Stp1) : Int := (st.map fun q => (w : Int) * (2 : Int) ^ q.1.toNat).sum
theorem sum_updN : ∀ {L : List Nat}, L.Nodup → ∀ {i : Nat}, i ∈ L → ∀ (f g : Nat → Int), (∀ j, j ≠ i → g j = f j) → (L.map g).sum = (L.map f).sum - f i + g i
  | a :: L, n, i, h, f, g, e => by
    rw [List.nodup_cons] at n
    rw [List.map_cons, List.map_cons, List.sum_cons, List.sum_cons]
    by_cases c : a = i
    · subst c
      have e2 : L.map g = L.map f := List.map_congr_left fun j hj => e j fun z => n.1 (z ▸ hj)
      rw [e2]
      omega
    · have h' : i ∈ L := (List.mem_cons.mp h).resolve_left fun z => c z.symm
      rw [sum_updN n.2 h' f g e, e a c]
      omega
theorem sum_zeroN : ∀ N : Nat, ((List.range N).map fun _ => (0 : Int)).sum = 0
  | 0 => rfl
  | N + 1 => by rw [List.range_succ, List.map_append, List.sum_append, sum_zeroN N]; rfl
theorem wt_sum {w : Nat} (N : Nat) : ∀ {st : Stp1}, StK st → (∀ q ∈ st, q.1 < (N : Int)) → Wt w st = ((List.range N).map (wAt w st)).sum
  | [], _, _ => by
    have : (List.range N).map (wAt w []) = (List.range N).map fun _ => (0 : Int) := List.map_congr_left fun k _ => by unfold wAt; rw [klook_nil]; simp [cnt]
    rw [this]
    show (0 : Int) = _
    exact (sum_zeroN N).symm
  | q :: st, k, hN => by
    have nd := k.nd
    rw [List.map_cons, List.nodup_cons] at nd
    have k2 : StK st := ⟨nd.2, fun z hz => k.nn z (List.mem_cons_of_mem _ hz)⟩
    have ih := wt_sum (w := w) N k2 fun z hz => hN z (List.mem_cons_of_mem _ hz)
    have h0 := k.nn q List.mem_cons_self
    have h1 := hN q List.mem_cons_self
    have eh : ((q.1.toNat : Nat) : Int) = q.1 := Int.toNat_of_nonneg h0
    have := sum_updN (L := List.range N) List.nodup_range (i := q.1.toNat) (List.mem_range.mpr (by omega)) (wAt w st) (wAt w (q :: st)) fun j hj => by
      unfold wAt
      rw [klook_cons, if_neg (by omega)]
    rw [this, ← ih]
    have z1 : wAt w st q.1.toNat = 0 := by
      unfold wAt
      rw [eh, klook_none.mpr nd.1]
      simp [cnt]
    have z2 : wAt w (q :: st) q.1.toNat = (w : Int) * (2 : Int) ^ q.1.toNat := by
      unfold wAt
      rw [eh, klook_cons, if_pos rfl]
      simp [cnt]
    rw [z1, z2]
    show (w : Int) * 2 ^ q.1.toNat + Wt w st = _
    omega
theorem wt_nonneg (w : Nat) : ∀ st : Stp1, 0 ≤ Wt w st
  | [] => Int.le_refl _
  | q :: st => by
    have ih := wt_nonneg w st
    have : 0 ≤ (w : Int) * (2 : Int) ^ q.1.toNat := Int.mul_nonneg (by omega) (Int.pow_nonneg (by decide))
    show 0 ≤ (w : Int) * (2 : Int) ^ q.1.toNat + Wt w st
    omega
theorem wt_mem {w : Nat} : ∀ {st : Stp1} {q : Int × Tup Int}, q ∈ st → (w : Int) * (2 : Int) ^ q.1.toNat ≤ Wt w st
  | p :: st, q, h => by
    have h0 := wt_nonneg w st
    have : 0 ≤ (w : Int) * (2 : Int) ^ p.1.toNat := Int.mul_nonneg (by omega) (Int.pow_nonneg (by decide))
    show _ ≤ (w : Int) * (2 : Int) ^ p.1.toNat + Wt w st
    rcases List.mem_cons.mp h with rfl | h
    · omega
    · have := wt_mem (w := w) h
      omega
structure AddOk (w : Nat) (st st' : Stp1) (h : Nat) : Prop where
  k : StK (addF st st' h).1
  lt : ∀ q ∈ (addF st st' h).1, q.1 < (h : Int)
  rg : ∀ q ∈ (addF st st' h).1, RGood w q.2
  cg : ∀ r, (addF st st' h).2 = some r → RGood w r
  wt : Wt w (addF st st' h).1 + cnt (addF st st' h).2 * ((w : Int) * (2 : Int) ^ h) = ((List.range h).map (wAt w st)).sum + ((List.range h).map (wAt w st')).sum
theorem wt_app (w : Nat) (st : Stp1) (q : Int × Tup Int) : Wt w (st ++ [q]) = Wt w st + (w : Int) * (2 : Int) ^ q.1.toNat := by
  unfold Wt
  rw [List.map_append, List.sum_append]
  simp
theorem add_ok {w : Nat} (h8 : w ≤ 8) {st st' : Stp1} (rg : ∀ q ∈ st, RGood w q.2) (rg' : ∀ q ∈ st', RGood w q.2) : ∀ h : Nat, AddOk w st st' h
  | 0 => ⟨⟨.nil, fun q hq => (by cases hq)⟩, fun q hq => (by cases hq), fun q hq => (by cases hq), fun r hr => (by cases hr), by simp [addF, Wt, cnt]⟩
  | h + 1 => by
    have A := add_ok h8 rg rg' h
    have sg := step_good h8 (a := klook st (h : Int)) (b := klook st' (h : Int)) (c := (addF st st' h).2) (fun r e => rg _ (klook_mem e)) (fun r e => rg' _ (klook_mem e)) A.cg
    have sc := step_cnt (klook st (h : Int)) (klook st' (h : Int)) (addF st st' h).2
    have e2 : (addF st st' (h + 1)).2 = (stepP (klook st (h : Int)) (klook st' (h : Int)) (addF st st' h).2).2 := rfl
    have no : klook (addF st st' h).1 (h : Int) = none := klook_none.mpr fun z => by
      obtain ⟨q, hq, e⟩ := List.mem_map.mp z
      have := A.lt q hq
      omega
    have e1 : (addF st st' (h + 1)).1 = (addF st st' h).1 ++ (((stepP (klook st (h : Int)) (klook st' (h : Int)) (addF st st' h).2).1.map fun r => ((h : Int), r)).toList) := by
      show (match (stepP (klook st (h : Int)) (klook st' (h : Int)) (addF st st' h).2).1 with | some r => kput (addF st st' h).1 (h : Int) r | none => (addF st st' h).1) = _
      cases (stepP (klook st (h : Int)) (klook st' (h : Int)) (addF st st' h).2).1 with
      | none => simp
      | some r => exact kput_new (klook_none.mp no)
    have mem : ∀ q ∈ (addF st st' (h + 1)).1, q ∈ (addF st st' h).1 ∨ ∃ r, (stepP (klook st (h : Int)) (klook st' (h : Int)) (addF st st' h).2).1 = some r ∧ q = ((h : Int), r) := fun q hq => by
      rw [e1, List.mem_append] at hq
      refine hq.imp id fun hq => ?_
      cases e : (stepP (klook st (h : Int)) (klook st' (h : Int)) (addF st st' h).2).1 with
      | none => rw [e] at hq; simp at hq
      | some r => rw [e] at hq; exact ⟨r, rfl, by simpa using hq⟩
    have wt1 : Wt w (addF st st' (h + 1)).1 = Wt w (addF st st' h).1 + cnt (stepP (klook st (h : Int)) (klook st' (h : Int)) (addF st st' h).2).1 * ((w : Int) * (2 : Int) ^ h) := by
      rw [e1]
      cases (stepP (klook st (h : Int)) (klook st' (h : Int)) (addF st st' h).2).1 with
      | none => simp [cnt]
      | some r =>
        show Wt w ((addF st st' h).1 ++ [((h : Int), r)]) = _
        rw [wt_app]
        simp [cnt]
    refine ⟨?_, fun q hq => ?_, fun q hq => ?_, fun r hr => ?_, ?_⟩
    · show StK (match (stepP (klook st (h : Int)) (klook st' (h : Int)) (addF st st' h).2).1 with | some r => kput (addF st st' h).1 (h : Int) r | none => (addF st st' h).1)
      cases (stepP (klook st (h : Int)) (klook st' (h : Int)) (addF st st' h).2).1 with
      | none => exact A.k
      | some r => exact A.k.put (Int.natCast_nonneg h)
    · rcases mem q hq with h1 | ⟨r, _, rfl⟩
      · have := A.lt q h1; omega
      · show (h : Int) < ((h + 1 : Nat) : Int); omega
    · rcases mem q hq with h1 | ⟨r, e, rfl⟩
      · exact A.rg q h1
      · exact sg.1 r e
    · rw [e2] at hr; exact sg.2 r hr
    · rw [wt1, e2, List.range_succ, List.map_append, List.map_append, List.sum_append, List.sum_append]
      have := A.wt
      simp only [List.map_cons, List.map_nil, List.sum_cons, List.sum_nil, wAt]
      have e3 : (w : Int) * (2 : Int) ^ (h + 1) = 2 * ((w : Int) * (2 : Int) ^ h) := by rw [Int.pow_succ, ← Int.mul_assoc, Int.mul_comm]
      rw [e3]
      generalize (w : Int) * (2 : Int) ^ h = P at *
      have sp := congrArg (· * P) sc
      simp only [Int.add_mul, Int.mul_assoc] at sp
      have e4 : ∀ x : Int, x * (2 * P) = 2 * (x * P) := fun x => by rw [← Int.mul_assoc, Int.mul_comm x 2, Int.mul_assoc]
      rw [e4]
      omega
/-- small enough: nothing is carried behind 11 -/
theorem add_end {w : Nat} (h1 : 1 ≤ w) (h8 : w ≤ 8) {st st' : Stp1} (k : StK st) (k' : StK st') (rg : ∀ q ∈ st, RGood w q.2) (rg' : ∀ q ∈ st', RGood w q.2) (hb : Wt w st + Wt w st' ≤ 1900) :
    (∀ q ∈ st, q.1 < 11) ∧ (∀ q ∈ st', q.1 < 11) ∧ (∀ h : Nat, (addF st st' h).2 ≠ none → h < 11) ∧ Wt w (addF st st' 12).1 = Wt w st + Wt w st' := by
  have p1 := wt_nonneg w st
  have p2 := wt_nonneg w st'
  have big : ∀ h : Nat, 11 ≤ h → 2048 ≤ (w : Int) * (2 : Int) ^ h := fun h hh => by
    have e : (2 : Nat) ^ 11 ≤ 2 ^ h := Nat.pow_le_pow_right (by decide) hh
    have e2 : 1 * 2 ^ 11 ≤ w * 2 ^ h := Nat.mul_le_mul h1 e
    have e3 : ((w * 2 ^ h : Nat) : Int) = (w : Int) * (2 : Int) ^ h := by push_cast; rfl
    have e4 : (2 : Nat) ^ 11 = 2048 := by decide
    omega
  have lt : ∀ {st : Stp1}, StK st → Wt w st ≤ 1900 → ∀ q ∈ st, q.1 < 11 := fun {st} k hw q hq => by
    have := wt_mem (w := w) hq
    have h0 := k.nn q hq
    refine Classical.byContradiction fun hn => ?_
    have := big q.1.toNat (by omega)
    omega
  have l1 := lt k (by omega)
  have l2 := lt k' (by omega)
  have full : ∀ h : Nat, 11 ≤ h → ((List.range h).map (wAt w st)).sum + ((List.range h).map (wAt w st')).sum = Wt w st + Wt w st' := fun h hh => by
    rw [← wt_sum h k fun q hq => by have := l1 q hq; omega, ← wt_sum h k' fun q hq => by have := l2 q hq; omega]
  have none11 : ∀ h : Nat, 11 ≤ h → (addF st st' h).2 = none := fun h hh => by
    have A := (add_ok h8 rg rg' h).wt
    rw [full h hh] at A
    have a0 := wt_nonneg w (addF st st' h).1
    have := big h hh
    cases e : (addF st st' h).2 with
    | none => rfl
    | some r =>
      rw [e] at A
      simp only [cnt, Option.isSome_some, if_true, Int.one_mul] at A
      omega
  refine ⟨l1, l2, fun h hn => Classical.byContradiction fun hh => hn (none11 h (by omega)), ?_⟩
  have A := (add_ok h8 rg rg' 12).wt
  rw [full 12 (by decide), none11 12 (by decide)] at A
  simpa [cnt] using A
/-- behind all rungs, with nothing carried, all stays -/
theorem add_stay {st st' : Stp1} {h : Nat} (l1 : ∀ q ∈ st, q.1 < (h : Int)) (l2 : ∀ q ∈ st', q.1 < (h : Int)) (hc : (addF st st' h).2 = none) : ∀ n : Nat, addF st st' (h + n) = addF st st' h
  | 0 => rfl
  | n + 1 => by
    have ih := add_stay l1 l2 hc n
    have no : ∀ {st : Stp1}, (∀ q ∈ st, q.1 < (h : Int)) → klook st ((h + n : Nat) : Int) = none := fun {st} l => klook_none.mpr fun z => by
      obtain ⟨q, hq, e⟩ := List.mem_map.mp z
      have := l q hq
      omega
    have e : addF st st' (h + n + 1) = (match (stepP (klook st ((h + n : Nat) : Int)) (klook st' ((h + n : Nat) : Int)) (addF st st' (h + n)).2).1 with
      | some r => kput (addF st st' (h + n)).1 ((h + n : Nat) : Int) r
      | none => (addF st st' (h + n)).1, (stepP (klook st ((h + n : Nat) : Int)) (klook st' ((h + n : Nat) : Int)) (addF st st' (h + n)).2).2) := rfl
    rw [show h + (n + 1) = h + n + 1 by omega, e, no l1, no l2, ih, hc]
    simp only [stepP]
    rw [← hc]
theorem lok_feeds {w : Nat} : ∀ (ns : List Int) {S : List Int × Stp1}, Lok w S → (∀ x ∈ ns, NumR x) → Lok w (ns.foldl (feedF w) S) ∧ fedS w (ns.foldl (feedF w) S) = fedS w S + (ns.length : Int)
  | [], S, h, _ => ⟨h, by simp⟩
  | x :: ns, S, h, hn => by
    obtain ⟨a, b⟩ := lok_feed h (hn x List.mem_cons_self)
    obtain ⟨c, d⟩ := lok_feeds ns a fun y hy => hn y (List.mem_cons_of_mem _ hy)
    refine ⟨c, ?_⟩
    rw [List.foldl_cons, d, b, List.length_cons]
    push_cast
    omega
theorem pour_lok {w : Nat} {S S' : List Int × Stp1} (h : Lok w S) (h' : Lok w S') (hb : fedS w S + fedS w S' ≤ 1900) : Lok w (pourS w S S') ∧ fedS w (pourS w S S') = fedS w S + fedS w S' := by
  have f1 : fedS w S = (S.1.length : Int) + Wt w S.2 := rfl
  have f2 : fedS w S' = (S'.1.length : Int) + Wt w S'.2 := rfl
  obtain ⟨l1, l2, l3, l4⟩ := add_end h.w1 h.w8 h.k h'.k h.rg h'.rg (by omega)
  have A := add_ok h.w8 h.rg h'.rg 12
  have base : Lok w (S.1, (addF S.2 S'.2 12).1) := ⟨h.w1, h.w8, h.fl, h.fn, A.k, A.rg⟩
  obtain ⟨a, b⟩ := lok_feeds (sortI S'.1) base fun x hx => h'.fn x ((sortI_perm _).mem_iff.mp hx)
  refine ⟨a, ?_⟩
  have f3 : fedS w (S.1, (addF S.2 S'.2 12).1) = (S.1.length : Int) + Wt w (addF S.2 S'.2 12).1 := rfl
  have sl := (sortI_perm S'.1).length_eq
  unfold pourS
  rw [b, f3, l4, sl]
  omega
/-! ### the law's own carrying -/
def withF (w : Nat) (L : List Int × Stp1) (n : Int) : List Int × Stp1 := if ((sortI (L.1 ++ [n])).length : Int) < (w : Int) then (sortI (L.1 ++ [n]), L.2) else ([], carry L.2.length L.2 0 (sortI (L.1 ++ [n])))
def lv (S : List Int × Stp1) : List Int × Stp1 := (sortI S.1, S.2)
theorem with_lv {w : Nat} {S : List Int × Stp1} (h : S.1.length < w) (n : Int) : withF w (lv S) n = lv (feedF w S n) := by
  have e : sortI (sortI S.1 ++ [n]) = sortI (S.1 ++ [n]) := sort_congrI (List.Perm.append_right _ (sortI_perm _))
  have el : (sortI (S.1 ++ [n])).length = S.1.length + 1 := by rw [(sortI_perm _).length_eq]; simp
  have el2 : (S.1 ++ [n]).length = S.1.length + 1 := by simp
  unfold withF lv feedF
  simp only [e, el, el2]
  by_cases c : S.1.length + 1 = w
  · rw [if_pos c, if_neg (by omega)]
    show _ = (sortI [], _)
    rw [show sortI [] = [] from (sortI_perm []).eq_nil]
  · rw [if_neg c, if_pos (by omega)]
theorem withs_lv {w : Nat} : ∀ (ns : List Int) {S : List Int × Stp1}, Lok w S → (∀ x ∈ ns, NumR x) → ns.foldl (withF w) (lv S) = lv (ns.foldl (feedF w) S)
  | [], S, _, _ => rfl
  | x :: ns, S, h, hn => by
    rw [List.foldl_cons, List.foldl_cons, with_lv h.fl, withs_lv ns (lok_feed h (hn x List.mem_cons_self)).1 fun y hy => hn y (List.mem_cons_of_mem _ hy)]
/-! ### heights are the bits of all full rungs -/
theorem keys_bits {w : Nat} {S : List Int × Stp1} (h : Lok w S) (hb : fedS w S ≤ 1900) : sortI (S.2.map (·.1)) = ((List.range 12).filter fun k => decide (bit ((fedS w S).toNat / w) k)).map fun k : Nat => (k : Int) := by
  have so := plain_ok h
  have pl := plain_len h
  have e : (fedS w S).toNat = (plainL S).length := by omega
  rw [e]
  have f1 : fedS w S = (S.1.length : Int) + Wt w S.2 := rfl
  refine asc_uniq (sort_strict h.k.nd) (List.pairwise_map.mpr ((List.Pairwise.filter _ List.pairwise_lt_range).imp fun {a b} h => by omega)) fun x => ?_
  rw [(sortI_perm _).mem_iff]
  constructor
  · intro hx
    obtain ⟨q, hq, rfl⟩ := List.mem_map.mp hx
    obtain ⟨k, e, b, _⟩ := lk_key so.k so.lk hq
    refine List.mem_map.mpr ⟨k, List.mem_filter.mpr ⟨List.mem_range.mpr ?_, decide_eq_true b⟩, e.symm⟩
    have := bit_lt (k := 12) b (Nat.lt_of_le_of_lt (Nat.div_le_self _ _) (by omega))
    exact this
  · intro hx
    obtain ⟨k, hk, rfl⟩ := List.mem_map.mp hx
    have b : bit ((plainL S).length / w) k := of_decide_eq_true (List.mem_filter.mp hk).2
    have := so.lk k
    rw [if_pos b] at this
    exact List.mem_map.mpr ⟨_, klook_mem this, rfl⟩
end B
/-! k51: Ladder.pour -/
namespace B
open PySem L2
open PySem.W (Tup T3 T4 Datum DatumOrd)
open Evl (Ex)
theorem add_congr {st a b : Stp1} (h : ∀ k, klook a k = klook b k) : ∀ n : Nat, addF st a n = addF st b n
  | 0 => rfl
  | n + 1 => by
    have ih := add_congr (st := st) h n
    show (match (stepP (klook st (n : Int)) (klook a (n : Int)) (addF st a n).2).1 with | some r => kput (addF st a n).1 (n : Int) r | none => (addF st a n).1, (stepP (klook st (n : Int)) (klook a (n : Int)) (addF st a n).2).2) = (match (stepP (klook st (n : Int)) (klook b (n : Int)) (addF st b n).2).1 with | some r => kput (addF st b n).1 (n : Int) r | none => (addF st b n).1, (stepP (klook st (n : Int)) (klook b (n : Int)) (addF st b n).2).2)
    rw [ih, h]
theorem klook_rungsL {st : Stp1} (k : StK st) (z : Int) : klook (rungsL st) z = klook st z := by
  have ndr : ((rungsL st).map (·.1)).Nodup := by rw [rungsL_keys]; exact (sortI_perm _).nodup_iff.mpr k.nd
  cases e : klook st z with
  | some v => exact klook_memN ndr (z, v) ((rungsL_mem k _).mpr (klook_mem e))
  | none =>
    refine klook_none.mpr fun hz => klook_none.mp e ?_
    rw [rungsL_keys] at hz
    exact (sortI_perm _).mem_iff.mp hz
def carryL : List (Tup Int) → List (Tup Int)
  | x :: y :: _ => [asT x y]
  | _ => []
def leftL : List (Tup Int) → List (Tup Int)
  | _ :: _ :: t => t
  | l => l
theorem step_lists (a b c : Option (Tup Int)) : (stepP a b c).2.toList = carryL (rungsAt a b c) ∧ (stepP a b c).1.toList = leftL (rungsAt a b c) := by
  cases a <;> cases b <;> cases c <;> exact ⟨rfl, rfl⟩
theorem rungsAt_len (a b c : Option (Tup Int)) : (rungsAt a b c).length ≤ 3 := by
  cases a <;> cases b <;> cases c <;> simp [rungsAt]
theorem rungsAt_mem {a b c : Option (Tup Int)} {r : Tup Int} (h : r ∈ rungsAt a b c) : a = some r ∨ b = some r ∨ c = some r := by
  unfold rungsAt at h
  simp only [List.mem_append, Option.mem_toList] at h
  rcases h with (h | h) | h
  · exact .inl h
  · exact .inr (.inl h)
  · exact .inr (.inr h)
theorem lok_lks {w : Nat} {S : List Int × Stp1} (h : Lok w S) (hb : fedS w S ≤ 1900) : LOkS w S := (plain_ok h).ok h.w1 h.w8 (by have := plain_len h; omega)
def sp_Ladder_pour (K : Fg) (C : Addr) : Sp := fun vs H Q E => (∃ (W : Wd) (x f s y f' s' : Addr) (w : Nat) (S S' : List Int × Stp1), W.H = H ∧ vs = [.ref x, .ref y] ∧ LadAt K C W x f s w S ∧ LadAt K C W y f' s' w S' ∧ Lok w S ∧ Lok w S' ∧ fedS w S + fedS w S' ≤ 1900 ∧
    ∀ W' f1 s1, Md [x, f, s] W W' → LadAt K C W' x f1 s1 w (pourS w S S') → NewL W f f1 → NewL W s s1 → Q .non W'.H) ∨
  (∃ (W : Wd) (x f s : Addr) (w : Nat) (S : List Int × Stp1) (u : V), W.H = H ∧ vs = [.ref x, u] ∧ LadAt K C W x f s w S ∧ (KdOf K C u W ∨ ∃ (y f' s' : Addr) (w' : Nat) (S' : List Int × Stp1), u = .ref y ∧ LadAt K C W y f' s' w' S' ∧ w' ≠ w) ∧ ∀ W', Grow W W' → E (.ref (cErr K "NoKeeper")) none W'.H)
theorem len_Ladder_pour {K : Fg} {C : Addr} {vs : List V} {H : Hp} {Q : VK} {E : XK} (h : sp_Ladder_pour K C vs H Q E) : vs.length = ["self", "other"].length := by
  rcases h with ⟨W, x, f, s, y, f', s', w, S, S', _, rfl, _⟩ | ⟨W, x, f, s, w, S, u, _, rfl, _⟩ <;> rfl
/-- Ladder.pour: the slots 0 self, 1 other, 2 more, 3 loose, 4 steps, 5 carried, 6 height, 7 top, 8 some, 9 row, 10 left, 11 number -/
abbrev n_Ladder_pour : List Str := ["self", "other", "more", "loose", "steps", "carried", "height", "top", "some", "row", "left", "number"]
def t_Ladder_pour (K : Fg) (c_Ladder : Addr) (E : XK) : TS := (tSeq (tIfS (tOr (tNot (tB (tCB (rIsi K) (tCons (tVar 1) (tCons (tC (.ref c_Ladder)) tNil))))) (tTest (tOp rNe (tMeth c_Ladder "size" (sp_Ladder_size K c_Ladder) [] E0 (tVar 1) tNil) (tFld K (tVar 0) "wide")))) (BX.tRaiseO (cErr K "NoKeeper") E) tNext)
  (tSeq (tPar 2 3 (tCons (tMeth c_Ladder "rungs" (sp_Ladder_rungs K c_Ladder) [] E0 (tVar 1) tNil) (tCons (tMeth c_Ladder "loose" (sp_Ladder_loose K c_Ladder) [] E0 (tVar 1) tNil) tNil)))
  (tSeq (tAsg (tTup (tCons tDNewK (tCons (tLst tNil) (tCons (tC (.int 0)) tNil)))) (gTup K 3 (gCons (gName 4) (gCons (gName 5) (gCons (gName 6) gNil)))))
  (tSeq (tAsg (tCB (rMax K) (tCons (tOp rCat (tOp rCat (tCB rListD (tCons (tFld K (tVar 0) "steps") tNil)) (tCB rListD (tCons (tVar 2) tNil))) (tLst (tCons (tUn oNeg (tC (.int 1))) tNil))) tNil)) (gName 7))
  (tSeq (tWhile (tOr (tTest (tOp oLe (tVar 6) (tVar 7))) (tTest (tOp (rEqT K true) (tVar 5) (tLst tNil))))
  (tSeq (tAsg (tOp rCat (tLc (iTup K (tTup (tCons (tFld K (tVar 0) "steps") (tCons (tVar 2) tNil)))) (gName 9) (tB (tDIn (tVar 6) (tVar 9))) (tDGet (tVar 9) (tVar 6)) [9]) (tVar 5)) (gName 8))
  (tSeq (tAsg (tIf (tTest (tOp oGt (tCB (rLen K) (tCons (tVar 8) tNil)) (tC (.int 1)))) (tLst (tCons (tCall (sp_as_one K) [] E0 (tCons (tOp (rIxL K) (tVar 8) (tC (.int 0))) (tCons (tOp (rIxL K) (tVar 8) (tC (.int 1))) tNil))) tNil)) (tLst tNil)) (gName 5))
  (tSeq (tAsg (tIf (tTest (tOp oGt (tCB (rLen K) (tCons (tVar 8) tNil)) (tC (.int 1)))) (tSl (rSlL K) (tVar 8) (tPart (tC (.int 2))) tNoPart) (tVar 8)) (gName 10))
  (tSeq (tIfS (tTest (tOp (rEqT K true) (tVar 10) (tLst tNil))) (sDPut (tVar 4) (tVar 6) (tOp (rIxL K) (tVar 10) (tC (.int 0)))) tNext)
  (tAug 6 (tC (.int 1)) (ipI fun i j => i + j)))))))
  (tSeq (sFld K (tVar 0) (tVar 4) "steps")
  (tFor (iTup K (tVar 3)) (gName 11)
  (tDrop (tMeth c_Ladder "feed" (sp_Ladder_feed K c_Ladder) [] E (tVar 0) (tCons (tVar 11) tNil))))))))))
section
variable {K : Fg} {W : Wd} {σ : SS} {te ta tb : TE} {ε : Ef}
theorem q_par2L {i j : Nat} {ta tb : TE} {tz : TS} {D : Ends} {σ : SS} {H : Hp} (h : ta σ H fun v H1 => tb σ H1 fun u H2 => ∃ x y, [v, u] = [x, y] ∧ tz D ((σ.set i (some x)).set j (some y)) H2) : tSeq (tPar i j (tCons ta (tCons tb tNil))) tz D σ H := h
theorem q_asgGH {te : TE} {g : TG} {tz : TS} {D : Ends} {σ : SS} {H : Hp} (h : te σ H fun v H1 => g v σ H1 fun σ2 H2 => tz D σ2 H2) : tSeq (tAsg te g) tz D σ H := h
theorem seqGL {tu tz : TS} {D : Ends} {σ : SS} {H : Hp} (R : SS → Hp → Prop) (h1 : ∀ Z : SS → Hp → Prop, (∀ σ' H', R σ' H' → Z σ' H') → tu { D with nx := Z } σ H) (h2 : ∀ σ' H', R σ' H' → tz D σ' H') : tSeq tu tz D σ H := h1 (tz D) h2
/-- (d, e): addresses -/
theorem ev_tupRaw {a b : Addr} (ha : EvR ε K ta σ W (Raw.mk (.ref a))) (hb : EvR ε K tb σ W (Raw.mk (.ref b))) : EvR ε K (tTup (tCons ta (tCons tb tNil))) σ W (Tup.mk [Raw.mk (.ref a), Raw.mk (.ref b)]) := fun W1 g1 Q k => ha W1 g1 _ fun v W2 g2 ra => hb W2 (g1.trans g2) _ fun u W3 g3 rb =>
  ⟨Evl.sz_of (by show 2 ≤ 100000; decide), fun p hp => k _ (W3.add p (.tup [v, u])) ((g2.trans g3).and (W3.grow_add hp)) ⟨p, [v, u], rfl, upd_same, .cons ra (.cons rb .nil)⟩⟩
theorem ev_ixT0 {rs : List (Tup Int)} {x : Tup Int} {i : Nat} {n : Int} {v : V} (h : σ[i]? = some (some v)) (rv : rep K W.B v rs) (hx : atI rs n = some x) : EvR ε K (tOp (rIxL K) (tVar i) (tC (.int n))) σ W x := ev_op (ev_var h rv) ev_int (ro_ixL hx)
theorem ev_carry {rs : List (Tup Int)} {i : Nat} {v : V} (h : σ[i]? = some (some v)) (rv : rep K W.B v rs) (hl : ∀ r ∈ rs, r.items.length ≤ 8) : EvR pur K (tIf (tTest (tOp oGt (tCB (rLen K) (tCons (tVar i) tNil)) (tC (.int 1)))) (tLst (tCons (tCall (sp_as_one K) [] E0 (tCons (tOp (rIxL K) (tVar i) (tC (.int 0))) (tCons (tOp (rIxL K) (tVar i) (tC (.int 1))) tNil))) tNil)) (tLst tNil)) σ W (carryL rs) := by
  have ht : EvT pur (tTest (tOp oGt (tCB (rLen K) (tCons (tVar i) tNil)) (tC (.int 1)))) σ W (decide ((rs.length : Int) > 1)) := et_test (ev_op (ev_cb1 (ev_var h rv) rc_len) ev_int ro_B0)
  have nl : EvR pur K (tLst tNil) σ W ([] : List (Tup Int)) := ev_lst ea_nil (by decide)
  match rs, rv, hl, ht with
  | [], rv, hl, ht => exact (ev_if (x := ([] : List (Tup Int))) (x' := ([] : List (Tup Int))) ht (fun z => by simp at z) fun _ => nl).is rfl
  | [x], rv, hl, ht => exact (ev_if (x := ([] : List (Tup Int))) (x' := ([] : List (Tup Int))) ht (fun z => by simp at z) fun _ => nl).is (by simp [carryL])
  | x :: y :: t, rv, hl, ht =>
    refine (ev_if (x := [asT x y]) (x' := [asT x y]) ht (fun _ => ev_lst (ea_cons (ev_callP2 (P := fun v W => rep K W.B v x) (P2 := fun v W => rep K W.B v y) (ev_ixT0 (rs := x :: y :: t) (n := ((0 : Nat) : Int)) h rv (atI_nat rfl)) (ev_ixT0 (rs := x :: y :: t) (n := ((1 : Nat) : Int)) h rv (atI_nat rfl)) (fun v W W' g h => rep_s g h) fun v1 v2 W1 g1 q1 q2 Q k => ⟨W1, v1, v2, x, y, rfl, rfl, q1, q2, hl x (by simp), hl y (by simp), fun z W2 g2 rz => k z W2 (.of g2) rz⟩) ea_nil) (by show 1 ≤ 100000; decide)) fun z => ?_).is (by simp [carryL])
    exact absurd z (by simp; omega)
theorem ev_left {rs : List (Tup Int)} {i : Nat} {v : V} (h : σ[i]? = some (some v)) (rv : rep K W.B v rs) : EvR pur K (tIf (tTest (tOp oGt (tCB (rLen K) (tCons (tVar i) tNil)) (tC (.int 1)))) (tSl (rSlL K) (tVar i) (tPart (tC (.int 2))) tNoPart) (tVar i)) σ W (leftL rs) := by
  have ht : EvT pur (tTest (tOp oGt (tCB (rLen K) (tCons (tVar i) tNil)) (tC (.int 1)))) σ W (decide ((rs.length : Int) > 1)) := et_test (ev_op (ev_cb1 (ev_var h rv) rc_len) ev_int ro_B0)
  match rs, rv, ht with
  | [], rv, ht => exact (ev_if (x := ([] : List (Tup Int))) (x' := ([] : List (Tup Int))) ht (fun z => by simp at z) fun _ => ev_var h rv).is rfl
  | [x], rv, ht => exact (ev_if (x := [x]) (x' := [x]) ht (fun z => by simp at z) fun _ => ev_var h rv).is (by simp [leftL])
  | x :: y :: t, rv, ht =>
    refine (ev_if (x := t) (x' := t) ht (fun _ => (ev_slL (ev_var h rv) (eo_some (K := K) ev_int) eo_none).is ?_) fun z => ?_).is (by simp [leftL])
    · rw [show (2 : Int) = ((2 : Nat) : Int) from rfl, cut_from (by simp)]
      rfl
    · exact absurd z (by simp; omega)
/-- what two dicts have at a height -/
theorem ev_two {a b : Addr} {st st' : Stp1} {h : Int} {i j : Nat} (ne : a ≠ b) (ha : EvR pur K ta σ W (Raw.mk (.ref a))) (hb : EvR pur K tb σ W (Raw.mk (.ref b))) (ma : DMut K W a st) (mb : DMut K W b st') (hj : j < σ.length) (hi : ∀ v : V, ((wipe σ [j]).set j (some v))[i]? = some (some (.int h))) :
    EvR pur K (tLc (iTup K (tTup (tCons ta (tCons tb tNil)))) (gName j) (tB (tDIn (tVar i) (tVar j))) (tDGet (tVar j) (tVar i)) [j]) σ W ((klook st h).toList ++ (klook st' h).toList) := by
  classical
  have hset : ∀ u : V, ((wipe σ [j]).set j (some u))[j]? = some (some u) := fun u => by
    rw [List.getElem?_set_self]
    simp [wipe]
    exact hj
  let Ra : Raw := Raw.mk (.ref a)
  let Rb : Raw := Raw.mk (.ref b)
  have nab : Rb ≠ Ra := fun z => ne (by injection z with z; injection z with z; exact z.symm)
  let d : Raw → Stp1 := fun z => if z = Ra then st else st'
  have dm : ∀ (x : Raw) (u : V) (W' : Wd), x ∈ [Ra, Rb] → Stp pur W W' → rep K W'.B u x → ∃ c, x = Raw.mk (.ref c) ∧ DMut K W' c (d x) := fun x u W' hx g r => by
    simp only [List.mem_cons, List.not_mem_nil, or_false] at hx
    rcases hx with rfl | rfl
    · exact ⟨a, rfl, by show DMut K W' a (if Ra = Ra then st else st'); rw [if_pos rfl]; exact ma.gr g.pure⟩
    · exact ⟨b, rfl, by show DMut K W' b (if Rb = Ra then st else st'); rw [if_neg nab]; exact mb.gr g.pure⟩
  refine (ev_lcNt (α := Raw) (xs := [Ra, Rb]) (p := fun z => decide (h ∈ (d z).map (·.1))) (f := fun z => (klook (d z) h).getD ⟨[]⟩) (ei_tup (xs := Tup.mk [Ra, Rb]) (ev_tupRaw ha hb)).i (fun x u W' hx g r => ?_) (fun x u W' hx hp g r => ?_) (by show 2 ≤ 100000; decide)).is ?_
  · obtain ⟨c, rfl, m⟩ := dm x u W' hx g r
    exact et_B (ev_dinE (ev_var (hset u) r) m.pur (ek_int (K := K) (ev_var (x := h) (hi u) rfl)))
  · obtain ⟨c, e, m⟩ := dm x u W' hx g r
    have hp := of_decide_eq_true hp
    have hk : klook (d x) h = some ((klook (d x) h).getD ⟨[]⟩) := by
      cases z : klook (d x) h with
      | none => exact absurd hp (klook_none.mp z)
      | some v => rfl
    rw [e] at r
    exact ev_dgetE (ev_var (hset u) r) m.pur (ek_int (K := K) (ev_var (x := h) (hi u) rfl)) hk
  · have da : d Ra = st := if_pos rfl
    have db : d Rb = st' := if_neg nab
    have one : ∀ (z : Raw), (([z].filter fun z => decide (h ∈ (d z).map (·.1))).map fun z => (klook (d z) h).getD ⟨[]⟩) = (klook (d z) h).toList := fun z => by
      cases e : klook (d z) h with
      | none => rw [List.filter_cons_of_neg (by simp only [decide_eq_true_eq]; exact klook_none.mp e)]; rfl
      | some v =>
        have : h ∈ (d z).map (·.1) := Classical.byContradiction fun n => by rw [klook_none.mpr n] at e; cases e
        rw [List.filter_cons_of_pos (by simp only [decide_eq_true_eq]; exact this)]
        simp [e]
    rw [show [Ra, Rb] = [Ra] ++ [Rb] from rfl, List.filter_append, List.map_append, one, one, da, db]
end
section
variable {K : Fg} {vs : List V} {H : Hp} {Q : VK} {E : XK} {C : Addr}
theorem kfe2 : ¬ (("feed" : Str) = "wide") ∧ ¬ (("feed" : Str) = "free") ∧ ¬ (("feed" : Str) = "steps") := by
  have h : (decide (("feed" : Str) = "wide") || decide (("feed" : Str) = "free") || decide (("feed" : Str) = "steps")) = false := by decide +kernel
  simp only [Bool.or_eq_false_iff, decide_eq_false_iff_not] at h
  exact ⟨h.1.1, h.1.2, h.2⟩
theorem Md.freshL3 {S as : List Addr} {W W1 W2 : Wd} (a : Md S W W1) (b : Md as W1 W2) (f : ∀ d ∈ as, d ∈ S ∨ W.H d = none) : Md S W W2 := ⟨a.b.trans b.b, fun x o h1 h2 => b.l x o (a.b x o h1) (a.l x o h1 h2), fun x o h1 h2 => b.o x o (fun z => (f x z).elim (fun z => h1 z) fun z => by rw [z] at h2; cases h2) (a.o x o h1 h2), fun x hx => by rw [b.m x (a.n x hx), a.m x hx], fun x hx => b.d x (a.d x hx), fun x hx => b.n x (a.n x hx)⟩
theorem max_ex (l : List Int) (h : l ≠ []) : ∃ m, m ∈ l ∧ ∀ y ∈ l, y ≤ m := by
  induction l with
  | nil => exact absurd rfl h
  | cons a l ih =>
    by_cases c : l = []
    · subst c
      exact ⟨a, by simp, fun y hy => by rw [List.mem_singleton.mp hy]; exact Int.le_refl _⟩
    · obtain ⟨m, hm, hx⟩ := ih c
      by_cases d : a ≤ m
      · exact ⟨m, List.mem_cons_of_mem _ hm, fun y hy => (List.mem_cons.mp hy).elim (fun e => e ▸ d) (hx y)⟩
      · exact ⟨a, List.mem_cons_self, fun y hy => (List.mem_cons.mp hy).elim (fun e => by rw [e]; exact Int.le_refl _) fun hy => by have := hx y hy; omega⟩
theorem rd_Ladder_pour (c : LadderC K C) (h : sp_Ladder_pour K C vs H Q E) : t_Ladder_pour K C E { nx := fun _ H' => Q .non H', rt := Q } (start n_Ladder_pour vs) H := by
  rcases h with ⟨W, x, f, s, y, f', s', w, S, S', rfl, rfl, r, ry, lo, lo', hb, k⟩ | ⟨W, x, f, s, w, S, u, rfl, rfl, r, hu, k⟩
  rotate_left
  · rcases hu with no | ⟨y, f', s', w', S', rfl, ry, ne⟩
    · exact q_when (ε := pur) (b := true) ((et_or (a := true) (b := false) ((et_not (et_B (ev_kdOf (K := K) (ev_rvar (i := 1) rfl) no))).is rfl) fun z => by cases z).is rfl) trivial (fun _ W1 g1 => k W1 g1.pure) (fun z => by cases z)
    · obtain ⟨dy, hy⟩ := ry.ex
      exact q_when (ε := pur) (b := true) ((et_or (a := false) (b := true) ((et_not (et_B (ev_isOwn c.i rfl ry.b hy (by simp [pur])))).is rfl) fun _ => (et_test (ev_op (K := K) (ev_lsize (ev_rvar (i := 1) rfl) ry) (ev_lwide c rfl r) ro_neI)).is (by simp; omega)).is rfl) trivial (fun _ W1 g1 => k W1 g1.pure) (fun z => by cases z)
  obtain ⟨dy, hy⟩ := ry.ex
  have eI : ∀ {i : Int} {W : Wd}, rep K W.B (V.int i) i := rfl
  let T0 : Option V → Option V → Option V → Option V → Option V → Option V → Option V → Option V → Option V → Option V → SS := fun v2 v3 v4 v5 v6 v7 v8 v9 v10 v11 => [some (.ref x), some (.ref y), v2, v3, v4, v5, v6, v7, v8, v9, v10, v11]
  show tSeq _ _ _ (T0 none none none none none none none none none none) W.H
  refine q_when (ε := pur) (W := W) (σ := T0 none none none none none none none none none none) (b := false) ((et_or (a := false) (b := false) ((et_not (et_B (ev_isOwn c.i rfl ry.b hy (by simp [pur])))).is rfl) fun _ => (et_test (ev_op (K := K) (ev_lsize (ev_rvar (i := 1) rfl) ry) (ev_lwide c rfl r) ro_neI)).is (by simp)).is rfl) trivial (fun z => by cases z) fun _ W1 g1' => ?_
  have g1 := g1'.pure
  have ry1 := ry.gr g1
  refine q_par2L ?_
  refine em_rungs (K := K) (C := C) (σ := T0 none none none none none none none none none none) (ev_rvar (i := 1) rfl) ry1 W1 (.start trivial) _ fun p2 W2 g2' f2 m2 => ?_
  have g2 := g2'.pure
  refine ev_loose (K := K) (C := C) (σ := T0 none none none none none none none none none none) c (ev_rvar (i := 1) rfl) (ry1.gr g2) W2 (.start trivial) _ fun v3 W3 g3' r3 => ⟨_, _, rfl, ?_⟩
  have g3 := g3'.pure
  have G3 := g1.trans (g2.trans g3)
  have m23 := m2.gr g3
  show tSeq _ _ _ (T0 (some (.ref p2)) (some v3) none none none none none none none none) W3.H
  refine q_asgGH (tup3H ?_)
  refine em_new (κ := Int) (α := Tup Int) (K := K) (ε := pur) (W := W3) (σ := T0 (some (.ref p2)) (some v3) none none none none none none none none) W3 (.start trivial) _ fun p4 W4 g4' f4 m4 => ?_
  have g4 := g4'.pure
  refine ev_lst (K := K) (ε := pur) (W := W4) (xs := ([] : List (Tup Int))) (σ := T0 (some (.ref p2)) (some v3) none none none none none none none none) ea_nil (by decide) W4 (.start trivial) _ fun v5 W5 g5' r5 => ⟨Evl.sz_of (by show 3 ≤ 100000; decide), fun pt hpt => ⟨pt, [.ref p4, v5, .int 0], rfl, SqT.of upd_same, rfl, .ref p4, [v5, .int 0], rfl, v5, [.int 0], rfl, .int 0, [], rfl, rfl, ?_⟩⟩
  have g5 := g5'.pure
  let W6 : Wd := W5.add pt (.tup [.ref p4, v5, .int 0])
  have g6 : Grow W5 W6 := W5.grow_add hpt
  have G6 := G3.trans (g4.trans (g5.trans g6))
  have r6 := r.gr G6
  have m26 := m23.gr (g4.trans (g5.trans g6))
  have m46 := m4.gr (g5.trans g6)
  have r56 := rep_g g6 r5
  have r36 := rep_g (g4.trans (g5.trans g6)) r3
  have p24 : p2 ≠ p4 := fun z => by
    obtain ⟨ks, e, _⟩ := m23.ex
    rw [z, f4] at e
    cases e
  have f2W : W.H p2 = none := was_noneL g1 f2
  have f4W : W.H p4 = none := was_noneL G3 f4
  obtain ⟨x2, fs2, s2⟩ := r.al f2W
  obtain ⟨x4, fs4, s4⟩ := r.al f4W
  show tSeq _ _ _ (T0 (some (.ref p2)) (some v3) (some (.ref p4)) (some v5) (some (.int 0)) none none none none none) W6.H
  obtain ⟨l1, l2, l3, _⟩ := add_end lo.w1 lo.w8 lo.k lo'.k lo.rg lo'.rg (by have f1 : fedS w S = (S.1.length : Int) + Wt w S.2 := rfl; have f2 : fedS w S' = (S'.1.length : Int) + Wt w S'.2 := rfl; omega)
  obtain ⟨top, ht1, ht2⟩ := max_ex (S.2.map (·.1) ++ (rungsL S'.2).map (·.1) ++ [-1]) (by simp)
  have topl : top < 11 := by
    rcases List.mem_append.mp ht1 with h | h
    · rcases List.mem_append.mp h with h | h
      · obtain ⟨q, hq, rfl⟩ := List.mem_map.mp h
        exact l1 q hq
      · obtain ⟨q, hq, rfl⟩ := List.mem_map.mp h
        exact l2 q ((rungsL_mem lo'.k q).mp hq)
    · rw [List.mem_singleton.mp h]; decide
  have kl : S.2.length ≤ 40 := lok_len r.ok
  have kl' : S'.2.length ≤ 40 := lok_len ry.ok
  have rl : (rungsL S'.2).length = S'.2.length := (rungs_perm lo'.k).length_eq
  refine q_asg (ε := pur) (K := K) (W := W6) (σ := T0 (some (.ref p2)) (some v3) (some (.ref p4)) (some v5) (some (.int 0)) none none none none none) (x := top) (ev_cb1 (ev_op (ev_op (ev_listDE (ev_lsteps c (j := 0) rfl r6) r6.ms.pur) (ev_listDE (ev_rvar (i := 2) rfl) m26.pur) (ro_cat (by rw [List.length_map, List.length_map, rl]; omega))) (ev_lst (ea_cons (ev_un ev_int ru_neg) ea_nil) (by show 1 ≤ 100000; decide)) (ro_cat (by rw [List.length_append, List.length_map, List.length_map, rl]; show _ + 1 ≤ _; omega))) (rc_max ht1 ht2)) trivial fun v7 W7 g7' e7 => ?_
  have g7 := g7'.pure
  rw [show v7 = V.int top from e7]
  let TT : V → Nat → Option V → Option V → Option V → SS := fun v5 h v8 v9 v10 => T0 (some (.ref p2)) (some v3) (some (.ref p4)) (some v5) (some (.int h)) (some (.int top)) v8 v9 v10 none
  have eqR : ∀ n, addF S.2 (rungsL S'.2) n = addF S.2 S'.2 n := add_congr (klook_rungsL lo'.k)
  show tSeq _ _ _ (TT v5 0 none none none) W7.H
  refine ⟨fun m σ' H' => ∃ (h : Nat) (W' : Wd) (v5 : V) (v8 v9 v10 : Option V), W'.H = H' ∧ σ' = TT v5 h v8 v9 v10 ∧ Grow W W' ∧ DMut K W' p2 (rungsL S'.2) ∧ DMut K W' p4 (addF S.2 S'.2 h).1 ∧ rep K W'.B v5 (addF S.2 S'.2 h).2.toList ∧ rep K W'.B v3 (Tup.mk (sortI S'.1)) ∧ h ≤ 12 ∧ m = 12 - h,
    ⟨_, 0, W7, v5, none, none, none, rfl, rfl, G6.trans g7, m26.gr g7, m46.gr g7, rep_g g7 r56, rep_g g7 r36, Nat.zero_le _, rfl⟩, ?_⟩
  rintro m σ' H' ⟨h, W8, v5, v8, v9, v10, rfl, rfl, G8, m28, m48, r58, r38, hh, rfl⟩
  have A := add_ok lo.w8 lo.rg lo'.rg h
  generalize ec : (addF S.2 S'.2 h).2 = cc at r58
  refine et_or (ε := pur) (a := decide ((h : Int) ≤ top)) (b := !decide (cc.toList = [])) (et_test (ev_op (K := K) (ev_var (x := (h : Int)) (i := 6) rfl eI) (ev_var (x := top) (i := 7) rfl eI) ro_B0)) (fun _ => et_test (ev_op (K := K) (x := cc.toList) (y := ([] : List (Tup Int))) (ev_var (i := 5) rfl r58) (ev_lst ea_nil (by decide)) (ro_neT (by decide)))) W8 (.start trivial) _ fun W9 g9' => ?_
  have g9 := g9'.pure
  have G9 := G8.trans g9
  have m29 := m28.gr g9
  have m49 := m48.gr g9
  have r59 := rep_g g9 r58
  have r39 := rep_g g9 r38
  have r9 := r.gr G9
  by_cases hc : (decide ((h : Int) ≤ top) || !decide (cc.toList = [])) = true
  · rw [if_pos hc]
    have hlt : h < 11 := by
      rw [Bool.or_eq_true] at hc
      rcases hc with hc | hc
      · have := of_decide_eq_true hc; omega
      · refine l3 h fun e => ?_
        rw [ec] at e
        rw [e] at hc
        simp at hc
    refine ⟨fun σ' H' => ∃ m', m' < 12 - h ∧ ∃ (h : Nat) (W' : Wd) (v5 : V) (v8 v9 v10 : Option V), W'.H = H' ∧ σ' = TT v5 h v8 v9 v10 ∧ Grow W W' ∧ DMut K W' p2 (rungsL S'.2) ∧ DMut K W' p4 (addF S.2 S'.2 h).1 ∧ rep K W'.B v5 (addF S.2 S'.2 h).2.toList ∧ rep K W'.B v3 (Tup.mk (sortI S'.1)) ∧ h ≤ 12 ∧ m' = 12 - h, fun σ' H' h => h, ?_⟩
    have sl := step_lists (klook S.2 (h : Int)) (klook S'.2 (h : Int)) cc
    have sg := step_good lo.w8 (a := klook S.2 (h : Int)) (b := klook S'.2 (h : Int)) (c := cc) (fun r e => lo.rg _ (klook_mem e)) (fun r e => lo'.rg _ (klook_mem e)) (by rw [← ec]; exact A.cg)
    have rr8 : ∀ z ∈ rungsAt (klook S.2 (h : Int)) (klook S'.2 (h : Int)) cc, z.items.length ≤ 8 := fun z hz => by
      have w8 := lo.w8
      rcases rungsAt_mem hz with e | e | e
      · have := (lo.rg _ (klook_mem e)).ln; have e2 : z.items.length = w := this; omega
      · have := (lo'.rg _ (klook_mem e)).ln; have e2 : z.items.length = w := this; omega
      · have := (A.cg z (by rw [ec]; exact e)).ln; omega
    have c3 : cc.toList.length ≤ 1 := by cases cc <;> simp
    have kt : ∀ o : Option (Tup Int), o.toList.length ≤ 1 := fun o => by cases o <;> simp
    have k1 := kt (klook S.2 (h : Int))
    have k2 := kt (klook (rungsL S'.2) (h : Int))
    show tSeq _ _ _ (TT v5 h v8 v9 v10) W9.H
    refine q_asg (ε := pur) (K := K) (W := W9) (σ := TT v5 h v8 v9 v10) (x := rungsAt (klook S.2 (h : Int)) (klook S'.2 (h : Int)) cc) ((ev_op (ev_two (i := 6) (j := 9) (h := (h : Int)) s2.symm (ev_lsteps c (j := 0) rfl r9) (ev_rvar (i := 2) rfl) r9.ms m29 (by show 9 < 12; decide) (fun v => rfl)) (ev_var (i := 5) rfl r59) (ro_cat (by rw [List.length_append]; omega))).is (by rw [klook_rungsL lo'.k]; rfl)) trivial fun v8' W10 g10' r8 => ?_
    have g10 := g10'.pure
    show tSeq _ _ _ (TT v5 h (some v8') v9 v10) W10.H
    refine q_asg (ε := pur) (K := K) (W := W10) (σ := TT v5 h (some v8') v9 v10) (ev_carry (i := 8) rfl r8 rr8) trivial fun v5' W11 g11' r5' => ?_
    have g11 := g11'.pure
    show tSeq _ _ _ (TT v5' h (some v8') v9 v10) W11.H
    refine q_asg (ε := pur) (K := K) (W := W11) (σ := TT v5' h (some v8') v9 v10) (ev_left (i := 8) rfl (rep_g g11 r8)) trivial fun v10' W12 g12' r10 => ?_
    have g12 := g12'.pure
    have G912 := g10.trans (g11.trans g12)
    rw [← sl.2] at r10
    rw [← sl.1] at r5'
    have m412 := m49.gr G912
    have no : klook (addF S.2 S'.2 h).1 (h : Int) = none := klook_none.mpr fun z => by
      obtain ⟨q, hq, e⟩ := List.mem_map.mp z
      have := A.lt q hq
      omega
    have al : (addF S.2 S'.2 h).1.length ≤ 100 := by
      have := nodup_le (l := (addF S.2 S'.2 h).1.map (·.1)) (m := rng 0 12) A.k.nd fun z hz => by
        obtain ⟨q, hq, rfl⟩ := List.mem_map.mp hz
        have a1 := A.lt q hq
        have a2 := A.k.nn q hq
        unfold rng
        exact List.mem_map.mpr ⟨q.1.toNat, List.mem_range.mpr (by omega), by omega⟩
      rw [List.length_map, rng_len] at this
      omega
    have nx2 : (addF S.2 S'.2 (h + 1)).2 = (stepP (klook S.2 (h : Int)) (klook S'.2 (h : Int)) cc).2 := by rw [← ec]; rfl
    have nx1 : (addF S.2 S'.2 (h + 1)).1 = (match (stepP (klook S.2 (h : Int)) (klook S'.2 (h : Int)) cc).1 with | some r => kput (addF S.2 S'.2 h).1 (h : Int) r | none => (addF S.2 S'.2 h).1) := by rw [← ec]; rfl
    generalize (stepP (klook S.2 (h : Int)) (klook S'.2 (h : Int)) cc).1 = lft at r10 nx1
    generalize (stepP (klook S.2 (h : Int)) (klook S'.2 (h : Int)) cc).2 = cy at r5' nx2
    -- what is left is laid down; the height goes up
    show tSeq _ _ _ (TT v5' h (some v8') v9 (some v10')) W12.H
    refine seqGL (fun σ' H' => ∃ (W13 : Wd), W13.H = H' ∧ σ' = TT v5' h (some v8') v9 (some v10') ∧ Grow W W13 ∧ On W12 W13 ∧ DMut K W13 p2 (rungsL S'.2) ∧ DMut K W13 p4 (addF S.2 S'.2 (h + 1)).1) (fun Z hZ => ?_) ?_
    · refine s_when (ε := pur) (W := W12) (σ := TT v5' h (some v8') v9 (some v10')) (b := !decide (lft.toList = [])) (et_test (ev_op (K := K) (x := lft.toList) (y := ([] : List (Tup Int))) (ev_var (i := 10) rfl r10) (ev_lst ea_nil (by decide)) (ro_neT (by decide)))) trivial (fun hz W13 g13' => ?_) (fun hz W13 g13' => ?_)
      · have g13 := g13'.pure
        cases lft with
        | none => simp at hz
        | some rg =>
          refine s_dputE (k := (h : Int)) (x := rg) (ev_rvar (i := 4) rfl) (m412.gr g13) (ev_ixT0 (rs := [rg]) (i := 10) rfl (rep_g g13 r10) rfl) (ek_int (K := K) (ev_var (x := (h : Int)) (i := 6) rfl eI)) (by omega) fun W14 m14 o14 m414 => ?_
          refine hZ _ _ ⟨W14, rfl, rfl, Md.fresh (G9.trans (G912.trans g13)) m14 f4W, g13.on.trans o14, ((m29.gr G912).gr g13).g m14 (by simpa using p24), ?_⟩
          rw [nx1]
          exact m414
      · have g13 := g13'.pure
        cases lft with
        | some rg => simp at hz
        | none =>
          refine hZ _ _ ⟨W13, rfl, rfl, G9.trans (G912.trans g13), g13.on, (m29.gr G912).gr g13, ?_⟩
          rw [nx1]
          exact m412.gr g13
    · rintro _ _ ⟨W13, rfl, rfl, G13, o13, m213, m413⟩
      refine s_augI (ε := pur) (K := K) (f := fun i j => i + j) (a := (h : Int)) (b := 1) rfl ev_int trivial fun W14 g14' => ?_
      have g14 := g14'.pure
      exact ⟨12 - (h + 1), by omega, h + 1, W14, v5', some v8', v9, some v10', rfl, rfl, G13.trans g14, m213.gr g14, m413.gr g14, by rw [nx2]; exact rep_g g14 (rep_on o13 (rep_g g12 r5')), rep_g g14 (rep_on o13 (rep_g G912 r39)), by omega, rfl⟩
  · rw [if_neg hc]
    have hc : (decide ((h : Int) ≤ top) || !decide (cc.toList = [])) = false := by simpa using hc
    rw [Bool.or_eq_false_iff] at hc
    have htop : top < (h : Int) := by have := of_decide_eq_false hc.1; omega
    have hcc : cc = none := by
      cases cc with
      | none => rfl
      | some z => simp at hc
    have b1 : ∀ q ∈ S.2, q.1 < (h : Int) := fun q hq => by
      have := ht2 q.1 (List.mem_append_left _ (List.mem_append_left _ (List.mem_map.mpr ⟨q, hq, rfl⟩)))
      omega
    have b2 : ∀ q ∈ S'.2, q.1 < (h : Int) := fun q hq => by
      have := ht2 q.1 (List.mem_append_left _ (List.mem_append_right _ (List.mem_map.mpr ⟨q, (rungsL_mem lo'.k q).mpr hq, rfl⟩)))
      omega
    have e12 : (addF S.2 S'.2 12).1 = (addF S.2 S'.2 h).1 := by
      have := add_stay b1 b2 (by rw [ec]; exact hcc) (12 - h)
      rw [show h + (12 - h) = 12 by omega] at this
      rw [this]
    obtain ⟨dx, hx9⟩ := r9.ex
    have base : Lok w (S.1, (addF S.2 S'.2 h).1) := ⟨lo.w1, lo.w8, lo.fl, lo.fn, A.k, A.rg⟩
    have wt12 := (add_end lo.w1 lo.w8 lo.k lo'.k lo.rg lo'.rg (by have f1 : fedS w S = (S.1.length : Int) + Wt w S.2 := rfl; have f2 : fedS w S' = (S'.1.length : Int) + Wt w S'.2 := rfl; omega)).2.2.2
    have fb : fedS w (S.1, (addF S.2 S'.2 h).1) + (S'.1.length : Int) = fedS w S + fedS w S' := by
      have f1 : fedS w S = (S.1.length : Int) + Wt w S.2 := rfl
      have f2 : fedS w S' = (S'.1.length : Int) + Wt w S'.2 := rfl
      have f3 : fedS w (S.1, (addF S.2 S'.2 h).1) = (S.1.length : Int) + Wt w (addF S.2 S'.2 h).1 := rfl
      rw [← e12, wt12] at f3
      rw [← e12, f3]
      omega
    show tSeq _ _ _ (TT v5 h v8 v9 v10) W9.H
    refine q_fldQ (σ := TT v5 h v8 v9 v10) c.i.cl c.n3 (i := 0) rfl r9.b hx9 lf_len ((ev_rvar (K := K) (ε := pur) (σ := TT v5 h v8 v9 v10) (W := W9) (i := 4) rfl).p) fun v11 W10 W11 g10 e11 m11 o11 b11 h11 => ?_
    rw [show v11 = V.ref p4 from e11] at h11
    rw [lf_putS] at h11
    have f9 := (r9.mf.gr g10).g m11 (by simpa using r9.xf.1.symm)
    have m411 := (m49.gr g10).g m11 (by simpa using x4)
    have r11 : LadAt K C W11 x f p4 w (S.1, (addF S.2 S'.2 h).1) := ⟨b11, ⟨dx, h11⟩, f9, m411, lok_lks base (by omega)⟩
    have M11 : Md [x, f, s] W W11 := (Grow.s (G9.trans g10)).trans (m11.mono (by simp))
    have r311 := rep_on o11 (rep_g g10 r39)
    refine s_for (ε := pur) (K := K) (W := W11) (σ := TT v5 h v8 v9 v10) (xs := (Tup.mk (sortI S'.1)).items) (ei_tup (ev_var (i := 3) rfl r311)) trivial fun W12 g12 =>
      ⟨fun i σ W' => ∃ (v11 : Option V) (fa : Addr), σ = T0 (some (.ref p2)) (some v3) (some (.ref p4)) (some v5) (some (.int h)) (some (.int top)) v8 v9 v10 v11 ∧ On W12 W' ∧ Md [x, f, s] W W' ∧ LadAt K C W' x fa p4 w (((sortI S'.1).take i).foldl (feedF w) (S.1, (addF S.2 S'.2 h).1)) ∧ NewL W f fa,
        ⟨none, f, rfl, .refl _, M11.trans (Grow.s g12.pure), r11.gr g12.pure, .inl rfl⟩, fun i σ' W' ⟨_, _, _, o, _⟩ => o, ?_, ?_⟩
    · rintro i n vx σ' W13' W13 hi hn ⟨v11, fa, rfl, o13', M13', r13', nw⟩ g13 rx
      have r13 := r13'.gr g13
      have hn' : (sortI S'.1)[i]? = some n := hn
      have nr : NumR n := lo'.fn n ((sortI_perm _).mem_iff.mp (List.mem_of_getElem? hn'))
      rw [show vx = V.int n from rx]
      have tk : (sortI S'.1).take (i + 1) = (sortI S'.1).take i ++ [n] := by rw [List.take_add_one, hn']; rfl
      obtain ⟨lt, ft⟩ := lok_feeds ((sortI S'.1).take i) base fun z hz => lo'.fn z ((sortI_perm _).mem_iff.mp (List.mem_of_mem_take hz))
      obtain ⟨lt2, ft2⟩ := lok_feed lt nr
      have tl : ((sortI S'.1).take i).length + 1 ≤ S'.1.length := by
        have := (List.getElem?_eq_some_iff.mp hn').1
        rw [(sortI_perm _).length_eq] at this
        rw [List.length_take, (sortI_perm _).length_eq]
        omega
      obtain ⟨dx2, hx2⟩ := r13.ex
      refine ⟨_, rfl, x, dx2, _, rfl, hx2, lf_no kfe2.1 kfe2.2.1 kfe2.2.2, _, rfl, .inl ⟨W13, x, fa, p4, w, _, n, rfl, rfl, r13, nr.1, nr.2, lok_lks lt2 (by omega), fun W14 fa' m14 r14 nw14 => ?_⟩⟩
      have nw2 : NewL W f fa' := nw14.elim (fun e => by rw [e]; exact nw) fun n => .inr (was_noneL (M13'.trans (Grow.s g13)) n)
      have M14 : Md [x, f, s] W W14 := by
        refine Md.freshL3 (M13'.trans (Grow.s g13)) m14 fun a ha => ?_
        simp only [List.mem_cons, List.not_mem_nil, or_false] at ha
        rcases ha with rfl | rfl | rfl
        · exact .inl (by simp)
        · rcases nw with rfl | z
          · exact .inl (by simp)
          · exact .inr z
        · exact .inr f4W
      refine ⟨W14, rfl, _, fa', rfl, (o13'.trans g13.on).trans m14.on, M14, ?_, nw2⟩
      rw [tk, List.foldl_append]
      exact r14
    · rintro σ' W13 ⟨v11, fa, rfl, o13, M13, r13, nw⟩
      rw [List.take_length] at r13
      rw [← e12] at r13
      exact k W13 fa p4 M13 r13 nw (.inr f4W)
end
end B
/-! ladders made of rows of any kind: ladder_of, is_fed -/
namespace B
open PySem L2
open PySem.W (Tup T3 T4 Datum DatumOrd)
open Evl (Ex)
def canonL (w : Nat) (xs : List Int) : Stp1 := canon (blk w xs) (xs.length / w)
def looseL (w : Nat) (xs : List Int) : List Int := sortI (xs.drop (xs.length / w * w))
/-- a thing that may be a row -/
inductive GV
  | l (ds : List PyData)
  | t (ds : List PyData)
  | o (d : PyData)
def gRep (K : Fg) (H : Hp) (v : V) : GV → Prop
  | .l ds => rep K H v ds
  | .t ds => rep K H v (Tup.mk ds)
  | .o d => rep K H v d ∧ kitB (dcls d) "list" = some false ∧ kitB (dcls d) "tuple" = some false
theorem gRep_mono {K : Fg} {H H' : Hp} {v : V} (e : Ext H H') : ∀ {g : GV}, gRep K H v g → gRep K H' v g
  | .l _, h => Py.mono e h
  | .t _, h => Py.mono e h
  | .o _, h => ⟨Py.mono e h.1, h.2⟩
instance : Py GV := ⟨fun K H v g => gRep K H v g, fun e h => gRep_mono e h⟩
def GV.cls : GV → String
  | .l _ => "list" | .t _ => "tuple" | .o d => dcls d
theorem ty_gv {K : Fg} (W1 : Wd) (v : V) : ∀ (g : GV), rep K W1.B v g → TyX K W1.H v (.type g.cls)
  | .l ds, h => ty_lst W1 v (xs := ds) h
  | .t ds, h => ty_tup W1 v (xs := Tup.mk ds) h
  | .o d, h => ty_dt W1 v d (show gRep K W1.B v (.o d) from h).1
def GV.isL : GV → Bool
  | .l _ => true | _ => false
def GV.isT : GV → Bool
  | .t _ => true | _ => false
theorem gv_kL {K : Fg} {H : Hp} {v : V} : ∀ {g : GV}, rep K H v g → kitB g.cls "list" = some g.isL
  | .l _, _ => by show kitB "list" "list" = some true; decide +kernel
  | .t _, _ => by show kitB "tuple" "list" = some false; decide +kernel
  | .o d, h => (show gRep K H v (.o d) from h).2.1
theorem gv_kT {K : Fg} {H : Hp} {v : V} : ∀ {g : GV}, rep K H v g → kitB g.cls "tuple" = some g.isT
  | .l _, _ => by show kitB "list" "tuple" = some false; decide +kernel
  | .t _, _ => by show kitB "tuple" "tuple" = some true; decide +kernel
  | .o d, h => (show gRep K H v (.o d) from h).2.2
def GV.items : GV → List PyData
  | .l ds => ds | .t ds => ds | .o _ => []
def numD (d : PyData) : Bool := numB 0 1000000 d
def intOf : PyData → Int
  | .int n => n
  | _ => 0
def nums (ds : List PyData) : List Int := ds.map intOf
def GV.good (g : GV) : Bool := (g.isL || g.isT) && g.items.all numD
theorem numD_int {d : PyData} (h : numD d = true) : d = .int (intOf d) ∧ NumOk (intOf d) := by
  cases d with
  | int n =>
    simp only [numD, numB, Bool.and_eq_true, decide_eq_true_eq] at h
    exact ⟨rfl, h⟩
  | _ => cases h
theorem nums_ok {ds : List PyData} (h : ds.all numD = true) : ∀ x ∈ nums ds, NumOk x := fun x hx => by
  obtain ⟨d, hd, rfl⟩ := List.mem_map.mp hx
  exact (numD_int (List.all_eq_true.mp h d hd)).2
theorem nums_len {ds : List PyData} : (nums ds).length = ds.length := List.length_map _
def sp_ladder_of (K : Fg) (C : Addr) : Sp := fun vs H Q E => (∃ (W : Wd) (w : Nat) (v : V) (g : GV), W.H = H ∧ vs = [.int w, v] ∧ rep K W.B v g ∧ 1 ≤ w ∧ w ≤ 8 ∧ g.good = true ∧ g.items.length ≤ 1000 ∧ ∀ y f s S W', Grow W W' → LadAt K C W' y f s w S → Sok w (nums g.items) S → S = feedL w (nums g.items) → W.H y = none → W.H f = none → W.H s = none → Q (.ref y) W'.H) ∨
  (∃ (W : Wd) (u v : V) (d : PyData), W.H = H ∧ vs = [u, v] ∧ rep K W.B u d ∧ numB 1 8 d = false ∧ ∀ W', Grow W W' → E (.ref (cErr K "NoSize")) none W'.H) ∨
  (∃ (W : Wd) (w : Nat) (v : V) (g : GV), W.H = H ∧ vs = [.int w, v] ∧ rep K W.B v g ∧ 1 ≤ w ∧ w ≤ 8 ∧ g.good = false ∧ g.items.length ≤ 1000 ∧ ∀ W', Grow W W' → E (.ref (cErr K "NoNumber")) none W'.H)
theorem len_ladder_of {K : Fg} {C : Addr} {vs : List V} {H : Hp} {Q : VK} {E : XK} (h : sp_ladder_of K C vs H Q E) : vs.length = ["size", "numbers"].length := by
  rcases h with ⟨W, w, v, g, _, rfl, _⟩ | ⟨W, u, v, d, _, rfl, _⟩ | ⟨W, w, v, g, _, rfl, _⟩ <;> rfl
/-- ladder_of: the slots 0 size, 1 numbers, 2 found, 3 number -/
abbrev n_ladder_of : List Str := ["size", "numbers", "found", "number"]
def t_ladder_of (K : Fg) (c_Ladder : Addr) (E : XK) : TS := (tSeq (tAsg (tMake c_Ladder (sp_Ladder___init__ K c_Ladder) [] E (tCons (tVar 0) tNil)) (gName 2))
  (tSeq (tIfS (tOr (tNot (tB (tCB (rIsiT K) (tCons (tVar 1) (tCons (tTup (tCons (tC (.ty "list")) (tCons (tC (.ty "tuple")) tNil))) tNil))))) (tTest (tOp (rNeW K) (tLc (BY.iSeq K (tVar 1)) (gName 3) (tNot (tB (tCall (sp_is_number K) [] E0 (tCons (tVar 3) tNil)))) (tVar 3) [3]) (tLst tNil)))) (BX.tRaiseO (cErr K "NoNumber") E) tNext)
  (tSeq (tFor (BY.iSeq K (tVar 1)) (gName 3)
  (tDrop (tMeth c_Ladder "feed" (sp_Ladder_feed K c_Ladder) [] E (tVar 2) (tCons (tVar 3) tNil))))
  (tRet (tVar 2)))))
def fedB (w : Nat) (ys : List Int) (g : GV) : Bool := g.isT && (g.items.all numD && (deq (canonL w (nums g.items)) (canonL w ys) && decide (looseL w (nums g.items) = looseL w ys)))
def sp_is_fed (K : Fg) (C : Addr) : Sp := fun vs H Q _ => ∃ (W : Wd) (x f s : Addr) (w : Nat) (S : List Int × Stp1) (v : V) (g : GV) (ys : List Int), W.H = H ∧ vs = [.ref x, v] ∧ LadAt K C W x f s w S ∧ Sok w ys S ∧ rep K W.B v g ∧ g.items.length ≤ 1000 ∧ ys.length ≤ 1000 ∧ ∀ W', Grow W W' → Q (.bl (fedB w ys g)) W'.H
theorem len_is_fed {K : Fg} {C : Addr} {vs : List V} {H : Hp} {Q : VK} {E : XK} (h : sp_is_fed K C vs H Q E) : vs.length = ["ladder", "thing"].length := by
  obtain ⟨W, x, f, s, w, S, v, g, ys, _, rfl, _⟩ := h
  rfl
/-- is_fed: the slots 0 ladder, 1 thing, 2 number -/
abbrev n_is_fed : List Str := ["ladder", "thing", "number"]
def t_is_fed (K : Fg) (c_Ladder : Addr) : TS := (tSeq (tIfS (tOr (tNot (tB (tCB (rIsi K) (tCons (tVar 1) (tCons (tC (.ty "tuple")) tNil))))) (tTest (tOp (rNeW K) (tLc (BY.iSeq K (tVar 1)) (gName 2) (tNot (tB (tCall (sp_is_number K) [] E0 (tCons (tVar 2) tNil)))) (tVar 2) [2]) (tLst tNil)))) (tRet (tC (.bl false))) tNext)
  (tRet (tOp (rInsEq c_Ladder (sp_Ladder___eq__ K c_Ladder) E0) (tCall (sp_ladder_of K c_Ladder) [] E0 (tCons (tMeth c_Ladder "size" (sp_Ladder_size K c_Ladder) [] E0 (tVar 0) tNil) (tCons (tVar 1) tNil))) (tVar 0))))
theorem eqS_leftP {w : Nat} {xs ys : List Int} {S S' : List Int × Stp1} (so : Sok w xs S) (so' : Sok w ys S') (hm : xs.length / w < 1024) (hm' : ys.length / w < 1024) : eqS w S w S' = (deq (canonL w xs) (canonL w ys) && decide (looseL w xs = looseL w ys)) := by
  unfold eqS
  rw [decide_eq_true rfl, Bool.true_and, Bool.and_comm, so.fr, so'.fr]
  congr 1
  exact deq_congr so.k.nd so'.k.nd canon_stk.nd canon_stk.nd (lk_same so.k canon_stk so.lk (canon_lk hm)) (lk_same so'.k canon_stk so'.lk (canon_lk hm'))
section
variable {K : Fg} {vs : List V} {H : Hp} {Q : VK} {E : XK} {C : Addr}
/-- the items of a row -/
theorem ei_gv {ε : Ef} {W : Wd} {σ : SS} {te : TE} {g : GV} (h : EvR ε K te σ W g) (hg : (g.isL || g.isT) = true) : EvJ ε K (BY.iSeq K te) σ W g.items := by
  cases g with
  | l ds => exact ei_seqL (xs := ds) h
  | t ds => exact ei_seqT (xs := Tup.mk ds) h
  | o d => cases hg
theorem ev_neE {W : Wd} {σ : SS} {ta : TE} {xs : List PyData} (h : EvR pur K ta σ W xs) : EvR pur K (tOp (rNeW K) ta (tLst tNil)) σ W (!xs.isEmpty) := fun W1 g1 Q k => h W1 g1 _ fun v W2 g2 r => ⟨Evl.sz_of (by show 0 ≤ 100000; decide), fun p hp => by
  obtain ⟨a, us, e, s, rr⟩ := rep_h r
  have pa : a ≠ p := fun z => by rw [← z, s] at hp; cases hp
  have g3 : Grow W2 (W2.add p (.lst [])) := W2.grow_add hp
  have ha : SqL K (upd W2.H p (.lst [])) a us := SqL.of (by rw [upd_ne pa]; exact s)
  have hl := Reps.len rr
  cases xs with
  | nil =>
    have e0 : us = [] := List.eq_nil_of_length_eq_zero (by simpa using hl)
    subst e0
    exact .inr (.inl ⟨1, a, p, [], [], true, by decide, e, rfl, ha, SqL.of upd_same, rfl, k _ (W2.add p (.lst [])) (g2.and g3) rfl⟩)
  | cons x xs =>
    exact .inr (.inr ⟨a, p, us, [], e, rfl, ha, SqL.of upd_same, by rw [hl]; simp, k _ (W2.add p (.lst [])) (g2.and g3) rfl⟩)⟩
theorem filt_all {ds : List PyData} : ((ds.filter fun d => !numD d).map id).isEmpty = ds.all numD := by
  rw [List.map_id]
  induction ds with
  | nil => rfl
  | cons d ds ih =>
    rw [List.filter_cons, List.all_cons]
    cases numD d
    · rfl
    · simpa using ih
theorem ev_odds {W : Wd} {σ : SS} {i j : Nat} {v : V} {g : GV} (hv : ((wipe σ [j])[i]? = some (some v) ∧ σ[i]? = some (some v))) (hj : j < σ.length) (rv : rep K W.B v g) (hg : (g.isL || g.isT) = true) (hl : g.items.length ≤ 1000) : EvR pur K (tOp (rNeW K) (tLc (BY.iSeq K (tVar i)) (gName j) (tNot (tB (tCall (sp_is_number K) [] E0 (tCons (tVar j) tNil)))) (tVar j) [j]) (tLst tNil)) σ W (!g.items.all numD) := by
  have hset : ∀ u : V, ((wipe σ [j]).set j (some u))[j]? = some (some u) := fun u => by
    rw [List.getElem?_set_self]
    simp [wipe]
    exact hj
  refine (ev_neE (ev_lcNt (xs := g.items) (p := fun d => !numD d) (f := id) (EvJ.i (ei_gv (ev_var hv.2 rv) hg)) (fun x u W' _ g' ru => et_not (et_B (ev_isNumber (ev_var (x := x) (hset u) ru)))) (fun x u W' _ _ g' ru => ev_var (x := x) (hset u) ru) (by omega))).is ?_
  rw [filt_all]
theorem Md.freshL {L : List Addr} {W W1 W2 : Wd} (a : Grow W W1) (b : Md L W1 W2) (f : ∀ d ∈ L, W.H d = none) : Grow W W2 := ⟨a.b.trans b.b, fun x o h1 h2 => b.l x o (a.b x o h1) (a.l x o h1 h2), fun x o h1 h2 => b.o x o (fun z => by rw [f x z] at h2; cases h2) (a.o x o h1 h2), fun x hx => by rw [b.m x (a.n x hx), a.m x hx], fun x hx => b.d x (a.d x hx), fun x hx => b.n x (a.n x hx)⟩
theorem ep_ladderE {W : Wd} {σ : SS} {tn : TE} {w : Nat} {E : XK} (hn : EvR pur K tn σ W (w : Int)) (h1 : 1 ≤ w) (h8 : w ≤ 8) :
    EvP pur (tMake C (sp_Ladder___init__ K C) [] E (tCons tn tNil)) σ W (fun v W' => ∃ y f s, v = .ref y ∧ LadAt K C W' y f s w ([], []) ∧ W.H y = none ∧ W.H f = none ∧ W.H s = none) := fun W1 g1 Q k => hn W1 g1 _ fun v2 W2 g2 r2 y dx hy hdx ne => by
  rw [show v2 = _ from r2]
  let Wa := W2.put dx (.own y) (W2.free hdx)
  have ga : Grow W2 Wa := W2.grow_put hdx
  have hy' : Wa.H y = none := (upd_ne ne.symm).trans hy
  let Wb := Wa.put y (.ins C dx []) (Wa.free hy')
  have gb : Grow Wa Wb := Wa.grow_put hy'
  have gab := ga.trans gb
  have g02 := (g1.trans g2).pure
  refine .inl ⟨Wb, y, dx, w, rfl, rfl, Wa.free hy', upd_same, h1, h8, fun W3 f s m3 r3 ff fs => ⟨rfl, ?_⟩⟩
  have M : Md [y] W2 W3 := (Grow.s gab).trans m3
  exact k _ W3 (g2.and (Md.fresh (.refl [] W2) M hy)) ⟨y, f, s, rfl, r3, was_noneL g02 hy, was_noneL (g02.trans gab) ff, was_noneL (g02.trans gab) fs⟩
theorem q_asgP2 {te : TE} {tz : TS} {D : Ends} {σ : SS} {H : Hp} {i : Nat} (h : te σ H fun v H1 => tz D (σ.set i (some v)) H1) : tSeq (tAsg te (gName i)) tz D σ H := h
theorem take_nums {ds : List PyData} {i : Nat} {d : PyData} (h : ds[i]? = some d) : nums (ds.take (i + 1)) = nums (ds.take i) ++ [intOf d] := by
  unfold nums
  rw [List.take_add_one, h, List.map_append]
  rfl
theorem rd_ladder_of (c : LadderC K C) (h : sp_ladder_of K C vs H Q E) : t_ladder_of K C E { nx := fun _ H' => Q .non H', rt := Q } (start n_ladder_of vs) H := by
  have test : ∀ {W : Wd} {σ : SS} {v : V} {g : GV} {w : Nat} {y : Addr}, σ = [some (.int w), some v, some (.ref y), none] → rep K W.B v g → g.items.length ≤ 1000 → EvT pur (tOr (tNot (tB (tCB (rIsiT K) (tCons (tVar 1) (tCons (tTup (tCons (tC (.ty "list")) (tCons (tC (.ty "tuple")) tNil))) tNil))))) (tTest (tOp (rNeW K) (tLc (BY.iSeq K (tVar 1)) (gName 3) (tNot (tB (tCall (sp_is_number K) [] E0 (tCons (tVar 3) tNil)))) (tVar 3) [3]) (tLst tNil)))) σ W (!g.good) := fun {W σ v g w y} es rv hl => by
    subst es
    refine (et_or (a := !(g.isL || g.isT)) (b := !g.items.all numD) (et_not (et_B (ev_isi2 (K := K) (ev_var (i := 1) rfl rv) (fun W1 v h => ty_gv W1 v g h) (gv_kL rv) (gv_kT rv)))) fun hI => et_test (ev_odds (i := 1) (j := 3) ⟨rfl, rfl⟩ (by show 3 < 4; decide) rv (by revert hI; cases (g.isL || g.isT) <;> simp) hl)).is ?_
    unfold GV.good
    cases (g.isL || g.isT) <;> simp
  rcases h with ⟨W, w, v, g, rfl, rfl, rv, h1, h8, hg, hl, k⟩ | ⟨W, u, v, d, rfl, rfl, rd, hd, k⟩ | ⟨W, w, v, g, rfl, rfl, rv, h1, h8, hg, hl, k⟩
  · have hg' := hg
    simp only [GV.good, Bool.and_eq_true] at hg'
    obtain ⟨hr, ha⟩ := hg'
    show tSeq _ _ _ [some (.int w), some v, none, none] W.H
    refine q_asgP (ε := pur) (ep_ladderE (K := K) (C := C) (w := w) (ev_var (i := 0) (x := (w : Int)) rfl rfl) h1 h8) trivial fun v2 W1 g1 ⟨y, f, s, e2, r1, fy, ff, fs⟩ => ?_
    subst e2
    have rv1 := rep_s g1 rv
    show tSeq _ _ _ [some (.int w), some v, some (.ref y), none] W1.H
    refine q_when (ε := pur) (b := false) ((test rfl rv1 hl).is (by rw [hg]; rfl)) trivial (fun z => by cases z) fun _ W2 g2 => ?_
    have G2 := g1.pure.trans g2.pure
    refine q_for (ε := pur) (K := K) (W := W2) (σ := [some (.int w), some v, some (.ref y), none]) (xs := g.items) (ei_gv (ev_var (i := 1) rfl (rep_s g2 rv1)) hr) trivial fun W3 g3 =>
      ⟨fun i σ W' => ∃ (v3 : Option V) (f' : Addr) (S : List Int × Stp1), σ = [some (.int w), some v, some (.ref y), v3] ∧ On W3 W' ∧ Grow W W' ∧ LadAt K C W' y f' s w S ∧ Sok w (nums (g.items.take i)) S ∧ S = feedL w (nums (g.items.take i)) ∧ W.H f' = none,
        ⟨none, f, _, rfl, .refl _, G2.trans g3.pure, (r1.gr g2.pure).gr g3.pure, sok_nil h1, rfl, ff⟩, fun i σ' W' ⟨_, _, _, _, o, _⟩ => o, ?_, ?_⟩
    · rintro i d vx σ' W4' W4 hi hd ⟨v3, f', S, rfl, o4', G4', r4', so, eS, ff'⟩ g4 rx
      have r4 := r4'.gr g4
      obtain ⟨ed, nd⟩ := numD_int (List.all_eq_true.mp ha d (List.mem_of_getElem? hd))
      have ev : vx = .int (intOf d) := dt_int (show rep K W4.B vx (PyData.int (intOf d)) from by rw [← ed]; exact rx)
      subst ev
      have so2 := sok_feed h1 so (intOf d)
      rw [← take_nums hd] at so2
      have eS2 : feedF w S (intOf d) = feedL w (nums (g.items.take (i + 1))) := by
        rw [take_nums hd, eS]
        unfold feedL
        rw [List.foldl_append]
        rfl
      obtain ⟨dx, hx⟩ := r4.ex
      refine ⟨_, rfl, y, dx, _, rfl, hx, lf_no kfe2.1 kfe2.2.1 kfe2.2.2, _, rfl, .inl ⟨W4, y, f', s, w, S, intOf d, rfl, rfl, r4, nd.1, nd.2, so2.ok h1 h8 (by rw [nums_len, List.length_take]; omega), fun W5 f'' m5 r5 nw => ?_⟩⟩
      have G5 := Md.freshL (G4'.trans g4) m5 (fun a ha => by
        simp only [List.mem_cons, List.not_mem_nil, or_false] at ha
        rcases ha with rfl | rfl | rfl
        · exact fy
        · exact ff'
        · exact fs)
      exact ⟨W5, rfl, _, f'', _, rfl, (o4'.trans g4.on).trans m5.on, G5, r5, so2, eS2, nw.elim (fun e => by rw [e]; exact ff') fun n => was_noneL (G4'.trans g4) n⟩
    · rintro σ' W4 ⟨v3, f', S, rfl, o4, G4, r4, so, eS, ff'⟩
      rw [List.take_length] at so eS
      exact ⟨_, rfl, k y f' s S W4 G4 r4 so eS fy ff' fs⟩
  · show tSeq _ _ _ [some u, some v, none, none] W.H
    refine q_asgP2 ?_
    refine ⟨_, rfl, fun y dy hy hdy ne => .inr ⟨(W.put dy (.own y) (W.free hdy)).put y (.ins C dy []) (Wd.free _ ((upd_ne ne.symm).trans hy)), .ref y, u, d, rfl, rfl, rep_g ((W.grow_put hdy).trans (Wd.grow_put _ ((upd_ne ne.symm).trans hy))) rd, hd, fun W3 g3 => k W3 (((W.grow_put hdy).trans (Wd.grow_put _ ((upd_ne ne.symm).trans hy))).trans g3)⟩⟩
  · show tSeq _ _ _ [some (.int w), some v, none, none] W.H
    refine q_asgP (ε := pur) (ep_ladderE (K := K) (C := C) (w := w) (ev_var (i := 0) (x := (w : Int)) rfl rfl) h1 h8) trivial fun v2 W1 g1 ⟨y, f, s, e2, r1, fy, ff, fs⟩ => ?_
    subst e2
    show tSeq _ _ _ [some (.int w), some v, some (.ref y), none] W1.H
    exact q_when (ε := pur) (b := true) ((test rfl (rep_s g1 rv) hl).is (by rw [hg]; rfl)) trivial (fun _ W2 g2 => k W2 (g1.pure.trans g2.pure)) (fun z => by cases z)
theorem rd_is_fed (c : LadderC K C) (h : sp_is_fed K C vs H Q E) : t_is_fed K C { nx := fun _ H' => Q .non H', rt := Q } (start n_is_fed vs) H := by
  obtain ⟨W, x, f, s, w, S, v, g, ys, rfl, rfl, r, so, rv, hl, hy, k⟩ := h
  have h1 := r.ok.w1
  have h8 := r.ok.w8
  show tSeq _ _ _ [some (.ref x), some v, none] W.H
  refine q_when (ε := pur) (b := !(g.isT && g.items.all numD)) ((et_or (a := !g.isT) (b := !g.items.all numD) (et_not (et_B (ev_cb2 (K := K) (ev_var (i := 1) rfl rv) ev_raw (rc_isi (b := g.isT) (fun W1 v h => ty_gv W1 v g h) (gv_kT rv))))) fun hI => et_test (ev_odds (i := 1) (j := 2) ⟨rfl, rfl⟩ (by show 2 < 3; decide) rv (by rw [show g.isT = true from by simpa using hI, Bool.or_true]) hl)).is (by cases g.isT <;> simp)) trivial (fun hb W1 g1 => ?_) (fun hb W1 g1 => ?_)
  · have e : fedB w ys g = false := by
      unfold fedB
      rw [← Bool.and_assoc, show (g.isT && g.items.all numD) = false from by revert hb; cases (g.isT && g.items.all numD) <;> simp, Bool.false_and]
    rw [e] at k
    exact k W1 g1.pure
  · have hb' : (g.isT && g.items.all numD) = true := by revert hb; cases (g.isT && g.items.all numD) <;> simp
    have hb2 := hb'
    rw [Bool.and_eq_true] at hb2
    have hg : g.good = true := by
      unfold GV.good
      rw [hb2.1, hb2.2, Bool.or_true]
      rfl
    have e : fedB w ys g = (deq (canonL w (nums g.items)) (canonL w ys) && decide (looseL w (nums g.items) = looseL w ys)) := by
      unfold fedB
      rw [← Bool.and_assoc, hb', Bool.true_and]
    have r1 := r.gr g1.pure
    refine retH (opH ?_)
    refine call2H ?_
    refine ev_lsize (K := K) (C := C) (σ := [some (.ref x), some v, none]) (ev_rvar (i := 0) rfl) r1 W1 (.start trivial) _ fun v1 W2 g2 e1 => ?_
    rw [show v1 = V.int w from e1]
    refine ⟨v, rfl, .inl ⟨W2, w, v, g, rfl, rfl, rep_s g2 (rep_s g1 rv), h1, h8, hg, hl, fun y f' s' S' W3 g3 r3 so3 _ fy ff fs => ?_⟩⟩
    have rx3 := (r1.gr g2.pure).gr g3
    obtain ⟨dx, hx⟩ := rx3.ex
    obtain ⟨dy, hy'⟩ := r3.ex
    have ns : s' ≠ s := ((r1.gr g2.pure).al fs).2.2
    refine ⟨_, rfl, y, x, dy, dx, _, _, rfl, rfl, hy', hx, .inl ⟨W3, y, f', s', x, f, s, w, w, S', S, rfl, rfl, r3, rx3, fun z => absurd z ns, fun W4 g4 => ?_⟩⟩
    rw [eqS_leftP so3 so (Nat.lt_of_le_of_lt (Nat.div_le_self _ _) (by rw [nums_len]; omega)) (Nat.lt_of_le_of_lt (Nat.div_le_self _ _) (by omega)), ← e]
    exact k W4 (((g1.pure.trans g2.pure).trans g3).trans g4)
end
end B
/-! k51: the law's own rungs -/
namespace B
open PySem L2
open PySem.W (Tup T3 T4 Datum DatumOrd)
open Evl (Ex)
/-- [rungs, loose]: they stay -/
def LeftAt (K : Fg) (W : Wd) (v : V) (S : List Int × Stp1) : Prop := ∃ (a d : Addr) (u : V) (ks : List (Key × V)), v = .ref a ∧ W.B a = some (.lst [.ref d, u]) ∧ W.B d = some (.dK ks) ∧ W.H d = some (.dK ks) ∧ KReps K W.B ks S.2 ∧ rep K W.B u S.1
section
variable {K : Fg} {W W' : Wd} {v : V} {S : List Int × Stp1} {σ : SS} {ε : Ef} {te : TE} {i : Nat}
theorem LeftAt.on (h : LeftAt K W v S) (o : On W W') : LeftAt K W' v S := by
  obtain ⟨a, d, u, ks, e, h1, h2, h3, h4, h5⟩ := h
  exact ⟨a, d, u, ks, e, o.b _ _ h1, o.b _ _ h2, o.l _ _ h2 h3, KReps.mono (exExt o.b) h4, rep_on o h5⟩
theorem LeftAt.gr (h : LeftAt K W v S) (g : Grow W W') : LeftAt K W' v S := h.on g.on
/-- its rungs -/
theorem ev_lf0 (he : EvR ε K te σ W (Raw.mk v)) (h : LeftAt K W v S) : ∃ d, EvR ε K (tOp (rIxL K) te (tC (.int 0))) σ W (Raw.mk (.ref d)) ∧ DStay ε K W d S.2 ∧ W.B d ≠ none := by
  obtain ⟨a, d, u, ks, rfl, h1, h2, h3, h4, h5⟩ := h
  refine ⟨d, fun W1 g1 Q k => he W1 g1 _ fun v W2 g2 e => ev_int (K := K) W2 g2.rf _ fun w W3 g3 e0 => ?_, fun W1 g1 => ⟨ks, g1.md.l _ _ h2 h3, KReps.mono (exExt g1.md.b) h4⟩, by rw [h2]; exact fun z => by cases z⟩
  have b3 := ((g1.trans g2).trans g3).md.b _ _ h1
  exact ⟨a, [.ref d, u], 0, .ref d, e, e0, SqL.of (W3.sub.el b3), rfl, k _ W3 (g2.trans g3) rfl⟩
/-- its loose numbers -/
theorem ev_lf1 (he : EvR ε K te σ W (Raw.mk v)) (h : LeftAt K W v S) : EvR ε K (tOp (rIxL K) te (tC (.int 1))) σ W S.1 := by
  obtain ⟨a, d, u, ks, rfl, h1, h2, h3, h4, h5⟩ := h
  refine fun W1 g1 Q k => he W1 g1 _ fun v W2 g2 e => ev_int (K := K) W2 g2.rf _ fun w W3 g3 e0 => ?_
  have G := (g1.trans g2).trans g3
  have b3 := G.md.b _ _ h1
  exact ⟨a, [.ref d, u], 1, u, e, e0, SqL.of (W3.sub.el b3), rfl, k _ W3 (g2.trans g3) (rep_s G h5)⟩
/-- [rungs, loose], laid down -/
theorem mk_left {p : Addr} {st : Stp1} {ls : List Int} {u : V} (m : DMut K W p st) (ru : rep K W.B u ls) {Q : VK} (k : ∀ (b : Addr) W', On W W' → (∀ W0 S, Md S W0 W → W0.H p = none → Md S W0 W') → LeftAt K W' (.ref b) (ls, st) → Q (.ref b) W'.H) : [V.ref p, u].length ≤ sizeLine ∧ ∀ b, W.H b = none → Q (.ref b) (upd W.H b (.lst [.ref p, u])) :=
  ⟨Evl.sz_of (by show 2 ≤ 100000; decide), fun b hb => by
    obtain ⟨ks, e, r⟩ := m.ex
    let W1 : Wd := W.fix p (.dK ks) e
    have ex1 : Ex W.B W1.B := ex_fix e m.b
    have hb1 : W1.H b = none := hb
    have pb : p ≠ b := fun z => by rw [z, hb] at e; cases e
    have g2 : Grow W1 (W1.add b (.lst [.ref p, u])) := W1.grow_add hb1
    have o1 : On W W1 := ⟨ex1, fun _ _ _ z => z⟩
    refine k b (W1.add b (.lst [.ref p, u])) (o1.trans g2.on) (fun W0 S M h0 => (md_fix M e m.b h0).trans (Grow.s g2)) ⟨b, p, u, ks, rfl, upd_same, g2.b _ _ upd_same, g2.l _ _ upd_same e, KReps.mono (exExt (o1.trans g2.on).b) r, rep_on (o1.trans g2.on) ru⟩⟩
end
theorem mk_leftE {K : Fg} {W : Wd} {p : Addr} {st : Stp1} {ls : List Int} {u : V} (m : DMut K W p st) (ru : rep K W.B u ls) (b : Addr) (hb : W.H b = none) : ∃ W', W'.H = upd W.H b (.lst [.ref p, u]) ∧ On W W' ∧ (∀ W0 S, Md S W0 W → W0.H p = none → Md S W0 W') ∧ LeftAt K W' (.ref b) (ls, st) := by
  obtain ⟨h1, h2⟩ := mk_left (K := K) m ru (Q := fun v H' => ∀ H, H = H' → v = .ref b → ∃ W', W'.H = H' ∧ On W W' ∧ (∀ W0 S, Md S W0 W → W0.H p = none → Md S W0 W') ∧ LeftAt K W' (.ref b) (ls, st)) fun b' W' o M L H e1 e2 => ⟨W', rfl, o, M, by rw [← e2]; exact L⟩
  exact h2 b hb _ rfl rfl
theorem map_int_inj : ∀ {xs ys : List Int}, xs.map V.int = ys.map V.int → xs = ys
  | [], [], _ => rfl
  | [], _ :: _, h => by cases h
  | _ :: _, [], h => by cases h
  | x :: xs, y :: ys, h => by
    rw [List.map_cons, List.map_cons] at h
    injection h with h1 h2
    injection h1 with h1
    rw [h1, map_int_inj h2]
theorem tup_uniq {K : Fg} {B : Hp} {v : V} {x y : Tup Int} (hx : rep K B v x) (hy : rep K B v y) : x = y := by
  obtain ⟨a, vs, e, s, r⟩ := hx
  obtain ⟨a', vs', e', s', r'⟩ := hy
  rw [e] at e'
  injection e' with e'
  subst e'
  rw [s] at s'
  injection s' with s'
  injection s' with s'
  subst s'
  have := (reps_int r).symm.trans (reps_int r')
  have : x.items = y.items := map_int_inj this
  cases x; cases y; simp at this; rw [this]
theorem lst_uniq {K : Fg} {B : Hp} {v : V} {x y : List Int} (hx : rep K B v x) (hy : rep K B v y) : x = y := by
  obtain ⟨a, vs, e, s, r⟩ := hx
  obtain ⟨a', vs', e', s', r'⟩ := hy
  rw [e] at e'
  injection e' with e'
  subst e'
  rw [s] at s'
  injection s' with s'
  injection s' with s'
  subst s'
  have := (reps_int r).symm.trans (reps_int r')
  exact map_int_inj this
theorem kreps_uniq {K : Fg} {B : Hp} : ∀ {ks : List (Key × V)} {st st' : Stp1}, KReps K B ks st → KReps K B ks st' → st = st'
  | _, _, _, .nil, .nil => rfl
  | _, _, _, .cons (b := p) ⟨a1, a2⟩ t, .cons (b := q) ⟨b1, b2⟩ t' => by
    have e1 : p.1 = q.1 := by
      have := a1.symm.trans b1
      exact Sum.inl.inj this
    have e2 : p.2 = q.2 := tup_uniq a2 b2
    rw [kreps_uniq t t', Prod.ext e1 e2]
theorem left_uniq {K : Fg} {W : Wd} {v : V} {S S' : List Int × Stp1} (h : LeftAt K W v S) (h' : LeftAt K W v S') : S = S' := by
  obtain ⟨a, d, u, ks, e, h1, h2, h3, h4, h5⟩ := h
  obtain ⟨a', d', u', ks', e', h1', h2', h3', h4', h5'⟩ := h'
  rw [e] at e'
  injection e' with e'
  subst e'
  rw [h1] at h1'
  injection h1' with h1'
  injection h1' with h1'
  injection h1' with x1 x2
  injection x1 with x1
  injection x2 with x2 _
  subst x1
  subst x2
  rw [h2] at h2'
  injection h2' with h2'
  injection h2' with h2'
  subst h2'
  exact Prod.ext (lst_uniq h5 h5') (kreps_uniq h4 h4')
def sp__law_joined (K : Fg) : Sp := fun vs H Q _ => ∃ (W : Wd) (v u : V) (a b : Tup Int), W.H = H ∧ vs = [v, u] ∧ rep K W.B v a ∧ rep K W.B u b ∧ a.items.length ≤ 8 ∧ b.items.length ≤ 8 ∧ ∀ z W', Grow W W' → rep K W'.B z (Tup.mk (asOne a.items b.items)) → Q z W'.H
theorem len__law_joined {K : Fg} {vs : List V} {H : Hp} {Q : VK} {E : XK} (h : sp__law_joined K vs H Q E) : vs.length = ["_law_one", "_law_another"].length := by
  obtain ⟨W, v, u, a, b, _, rfl, _⟩ := h
  rfl
/-- _law_joined: the slots 0 _law_one, 1 _law_another, 2 _law_both, 3 _law_k -/
abbrev n__law_joined : List Str := ["_law_one", "_law_another", "_law_both", "_law_k"]
def t__law_joined (K : Fg) : TS := (tSeq (tAsg (tCB (rSortedIT K) (tCons (tOp (rCatA K) (tVar 0) (tVar 1)) tNil)) (gName 2))
  (tRet (tCB (rTupleO K) (tCons (tLc (iRng3 (tCons (tC (.int 1)) (tCons (tCB (rLen K) (tCons (tVar 2) tNil)) (tCons (tC (.int 2)) tNil)))) (gName 3) tYes (tOp (rIxL K) (tVar 2) (tVar 3)) [3]) tNil))))
def sp__law_with (K : Fg) : Sp := fun vs H Q _ => ∃ (W : Wd) (v : V) (w : Nat) (S : List Int × Stp1) (n : Int), W.H = H ∧ vs = [v, .int w, .int n] ∧ LeftAt K W v S ∧ LOkS w S ∧ ∀ u W', Grow W W' → LeftAt K W' u (withF w S n) → Q u W'.H
theorem len__law_with {K : Fg} {vs : List V} {H : Hp} {Q : VK} {E : XK} (h : sp__law_with K vs H Q E) : vs.length = ["_law_left", "_law_wide", "_law_number_here"].length := by
  obtain ⟨W, v, w, S, n, _, rfl, _⟩ := h
  rfl
/-- _law_with: the slots 0 _law_left, 1 _law_wide, 2 _law_number_here, 3 _law_rungs, 4 _law_loose, 5 _law_rung, 6 _law_height -/
abbrev n__law_with : List Str := ["_law_left", "_law_wide", "_law_number_here", "_law_rungs", "_law_loose", "_law_rung", "_law_height"]
def t__law_with (K : Fg) : TS := (tSeq (tPar 3 4 (tCons (tCB rDictC (tCons (tOp (rIxL K) (tVar 0) (tC (.int 0))) tNil)) (tCons (tCB (rSortedI K) (tCons (tOp rCat (tOp (rIxL K) (tVar 0) (tC (.int 1))) (tLst (tCons (tVar 2) tNil))) tNil)) tNil)))
  (tSeq (tIfS (tTest (tOp oLt (tCB (rLen K) (tCons (tVar 4) tNil)) (tVar 1))) (tRet (tLst (tCons (tVar 3) (tCons (tVar 4) tNil)))) tNext)
  (tSeq (tPar 5 6 (tCons (tCB (rTupleO K) (tCons (tVar 4) tNil)) (tCons (tC (.int 0)) tNil)))
  (tSeq (tWhile (tB (tDIn (tVar 6) (tVar 3)))
  (tSeq (tAsg (tCall (sp__law_joined K) [] E0 (tCons (tDPop1 (tVar 3) (tVar 6)) (tCons (tVar 5) tNil))) (gName 5))
  (tAsg (tOp oAdd (tVar 6) (tC (.int 1))) (gName 6))))
  (tSeq (sDPut (tVar 3) (tVar 6) (tVar 5))
  (tRet (tLst (tCons (tVar 3) (tCons (tLst tNil) tNil)))))))))
/-- range(lo, j, c) -/
def rngC (lo c : Int) (n : Nat) : List Int := (List.range n).map fun i : Nat => lo + (i : Nat) * c
theorem rngC_get {lo c : Int} {n i : Nat} (h : i < n) : (rngC lo c n)[i]? = some (lo + (i : Nat) * c) := by unfold rngC; simp [h]
theorem src_rangeC {K : Fg} {lo c : Int} {n : Nat} {S : Wd → Prop} : Src K (Itc lo c n) S (rngC lo c n) :=
  ⟨fun i W' _ hi => (show i < n from by unfold rngC at hi; simpa using hi), fun i W' v H'' _ hi ⟨e1, e2⟩ => ⟨_, W', e1.symm, .refl _ _, rngC_get (by unfold rngC at hi; simpa using hi), e2⟩,
    fun i W' _ hi => (show n ≤ i from by unfold rngC at hi; simpa using hi)⟩
theorem ei_rng3 {K : Fg} {W : Wd} {σ : SS} {ε : Ef} {ta tb tc : TE} {m n c : Int} {k : Nat} (ha : EvR ε K ta σ W m) (hb : EvR ε K tb σ W n) (hc : EvR ε K tc σ W c) (h : RgC m n c k) : EvJ ε K (iRng3 (tCons ta (tCons tb (tCons tc tNil)))) σ W (rngC m c k) := fun W1 g1 R q => ha W1 g1 _ fun v W2 g2 r =>
  hb W2 (g1.trans g2) _ fun u W3 g3 ru => hc W3 ((g1.trans g2).trans g3) _ fun w W4 g4 rw => ⟨m, n, c, k, by rw [show v = _ from r, show u = _ from ru, show w = _ from rw], h, q _ W4 ((g2.trans g3).trans g4) src_rangeC⟩
theorem rg_odd : ∀ n : Fin 17, PySem.Builtin.Range.small 1 (n.1 : Int) 2 = true ∧ PySem.Builtin.Range.rangeSize 1 (n.1 : Int) 2 = ((n.1 / 2 : Nat) : Int) := by decide +kernel
theorem rgC_odd {n : Nat} (h : n ≤ 16) : RgC 1 (n : Int) 2 (n / 2) := by
  obtain ⟨a, b⟩ := rg_odd ⟨n, by omega⟩
  exact ⟨by decide, by decide, a, by simpa using b⟩
theorem odd_map {xs : List Int} (h : xs.length ≤ 16) : (rngC 1 2 (xs.length / 2)).map (fun k => xs.getD k.toNat 0) = pickL (some 1) none 2 xs := by
  rw [pickL_odd _ h]
  unfold rngC
  rw [List.map_map]
  have : ∀ l : List Nat, (∀ i ∈ l, 2 * i + 1 < xs.length) → l.map ((fun k : Int => xs.getD k.toNat 0) ∘ fun i : Nat => 1 + (i : Nat) * (2 : Int)) = l.filterMap fun i => xs[2 * i + 1]? := fun l => by
    induction l with
    | nil => intro _; rfl
    | cons a l ih =>
      intro hl
      have ha := hl a List.mem_cons_self
      rw [List.map_cons, List.filterMap_cons_some (f := fun i : Nat => xs[2 * i + 1]?) (a := a) (b := xs[2 * a + 1]) (List.getElem?_eq_getElem ha), ih fun i hi => hl i (List.mem_cons_of_mem _ hi)]
      congr 1
      show xs.getD (1 + (a : Nat) * (2 : Int)).toNat 0 = _
      rw [show (1 + (a : Nat) * (2 : Int)).toNat = 2 * a + 1 by omega, List.getD_eq_getElem?_getD, List.getElem?_eq_getElem ha]
      rfl
  exact this _ fun i hi => by have := List.mem_range.mp hi; omega
section
variable {K : Fg} {vs : List V} {H : Hp} {Q : VK} {E : XK} {C : Addr}
theorem rd__law_joined (h : sp__law_joined K vs H Q E) : t__law_joined K { nx := fun _ H' => Q .non H', rt := Q } (start n__law_joined vs) H := by
  obtain ⟨W, v, u, a, b, rfl, rfl, ra, rb, la, lb, k⟩ := h
  have hl : (sortI (a.items ++ b.items)).length ≤ 16 := by rw [(sortI_perm _).length_eq, List.length_append]; omega
  refine q_asg (ε := pur) (K := K) (W := W) (σ := [some v, some u, none, none]) (x := sortI (a.items ++ b.items)) (ev_sortIT (xs := Tup.mk (a.items ++ b.items)) (ev_op (ev_var (i := 0) rfl ra) (ev_var (i := 1) rfl rb) (ro_catT (by omega))) (by rw [List.length_append]; omega)) trivial fun v2 W1 g1 r2 => ?_
  refine s_ret (ε := pur) (K := K) (x := Tup.mk (asOne a.items b.items)) (ev_cb1 ((ev_lcN (K := K) (xs := rngC 1 2 ((sortI (a.items ++ b.items)).length / 2)) (f := fun k => (sortI (a.items ++ b.items)).getD k.toNat 0) (EvJ.i (ei_rng3 ev_int (ev_cb1 (ev_var (i := 2) rfl r2) rc_len) ev_int (rgC_odd hl))) (fun x u W' hx g ru => ev_op (ev_var (i := 2) rfl (rep_s g r2)) (ev_var (i := 3) rfl ru) (ro_ixL ?_)) (by unfold rngC; rw [List.length_map, List.length_range]; omega)).is (odd_map hl)) rc_tupL) trivial fun z W4 g4 rz => k z W4 (g1.pure.trans g4.pure) rz
  unfold rngC at hx
  obtain ⟨i, hi, rfl⟩ := List.mem_map.mp hx
  have hi := List.mem_range.mp hi
  have hj : 2 * i + 1 < (sortI (a.items ++ b.items)).length := by omega
  rw [show (1 : Int) + (i : Nat) * 2 = ((2 * i + 1 : Nat) : Int) by omega, Int.toNat_natCast, List.getD_eq_getElem?_getD, List.getElem?_eq_getElem hj]
  exact atI_nat (List.getElem?_eq_getElem hj)
theorem rd__law_with (h : sp__law_with K vs H Q E) : t__law_with K { nx := fun _ H' => Q .non H', rt := Q } (start n__law_with vs) H := by
  obtain ⟨W, v, w, S, n, rfl, rfl, r, ok, k⟩ := h
  have eI : ∀ {i : Int} {W : Wd}, rep K W.B (V.int i) i := rfl
  have fl := ok.fl
  have w8 := ok.w8
  have hsl : (sortI (S.1 ++ [n])).length = S.1.length + 1 := by rw [(sortI_perm _).length_eq]; simp
  let T : Option V → Option V → Option V → Option V → SS := fun v3 v4 v5 v6 => [some v, some (.int w), some (.int n), v3, v4, v5, v6]
  show tSeq _ _ _ (T none none none none) W.H
  refine q_par2L ?_
  obtain ⟨d, e0, ds, _⟩ := ev_lf0 (ε := pur) (σ := T none none none none) (te := tVar 0) (ev_rvar (i := 0) rfl) r
  refine em_copyE (K := K) (κ := Int) (β := Tup Int) (σ := T none none none none) e0 ds W (.start trivial) _ fun p3 W1 g1' f3 m3 => ?_
  have g1 := g1'.pure
  refine ev_sortIL (K := K) (ε := pur) (σ := T none none none none) (W := W1) (ev_op (ev_lf1 (ev_rvar (i := 0) rfl) (r.gr g1)) (ev_lst (ea_cons (ev_var (x := n) (i := 2) rfl eI) ea_nil) (by show 1 ≤ 100000; decide)) (ro_cat (by show S.1.length + 1 ≤ _; omega))) W1 (.start trivial) _ fun v4 W2 g2' r4 => ⟨_, _, rfl, ?_⟩
  have g2 := g2'.pure
  have m32 := m3.gr g2
  have f3W : W.H p3 = none := f3
  show tSeq _ _ _ (T (some (.ref p3)) (some v4) none none) W2.H
  refine q_when (ε := pur) (W := W2) (σ := T (some (.ref p3)) (some v4) none none) (b := decide (((sortI (S.1 ++ [n])).length : Int) < (w : Int))) (et_test (ev_op (K := K) (ev_cb1 (ev_var (i := 4) rfl r4) rc_len) (ev_var (x := (w : Int)) (i := 1) rfl eI) ro_B0)) trivial (fun hb W3 g3' => ?_) (fun hb W3 g3' => ?_)
  · have g3 := g3'.pure
    have e : withF w S n = (sortI (S.1 ++ [n]), S.2) := by unfold withF; rw [if_pos (of_decide_eq_true hb)]
    rw [e] at k
    show tLst _ (T (some (.ref p3)) (some v4) none none) W3.H Q
    exact ⟨_, rfl, _, rfl, mk_left (m32.gr g3) (rep_g g3 r4) fun b W4 o4 M4 L4 => k _ W4 (M4 W [] (g1.trans (g2.trans g3)) f3W) L4⟩
  · have g3 := g3'.pure
    have hn : ¬ ((sortI (S.1 ++ [n])).length : Int) < (w : Int) := of_decide_eq_false hb
    have e : withF w S n = ([], carry S.2.length S.2 0 (sortI (S.1 ++ [n]))) := by unfold withF; rw [if_neg hn]
    rw [e] at k
    have G3 := g1.trans (g2.trans g3)
    have m33 := m32.gr g3
    have r43 := rep_g g3 r4
    refine q_par2L ?_
    refine ev_cb1 (K := K) (ε := pur) (x := sortI (S.1 ++ [n])) (σ := T (some (.ref p3)) (some v4) none none) (W := W3) (ev_var (i := 4) rfl r43) rc_tupL W3 (.start trivial) _ fun v5 W4 g4' r5 => ?_
    refine ev_int (K := K) (ε := pur) (W := W4) (σ := T (some (.ref p3)) (some v4) none none) W4 (.start trivial) _ fun v6 W5 g5' e6 => ⟨_, _, rfl, ?_⟩
    rw [show v6 = V.int 0 from e6]
    have g4 := g4'.pure
    have g5 := g5'.pure
    have rung8 : (sortI (S.1 ++ [n])).length ≤ 8 := by omega
    show tSeq _ _ _ (T (some (.ref p3)) (some v4) (some v5) (some (.int (0 : Int)))) W5.H
    refine ⟨fun m σ' H' => ∃ (st : Stp1) (h : Int) (r' : List Int) (v : V) (fuel : Nat) (W' : Wd), W'.H = H' ∧ σ' = T (some (.ref p3)) (some v4) (some v) (some (.int h)) ∧ m = st.length ∧ Grow W W' ∧ rep K W'.B v (Tup.mk r') ∧ DMut K W' p3 st ∧ carry fuel st h r' = carry S.2.length S.2 0 (sortI (S.1 ++ [n])) ∧ st.length ≤ fuel ∧ (st.map (·.1)).Nodup ∧ (∀ q ∈ st, q.2.items.length ≤ 8) ∧ r'.length ≤ 8 ∧ st.length ≤ 40,
      ⟨_, S.2, 0, sortI (S.1 ++ [n]), v5, S.2.length, W5, rfl, rfl, rfl, G3.trans (g4.trans g5), rep_g g5 r5, m33.gr (g4.trans g5), rfl, Nat.le_refl _, ok.k.nd, ok.ln, rung8, lok_len ok⟩, ?_⟩
    rintro m σ' H' ⟨st, h, r', v', fuel, W6, rfl, rfl, rfl, G6, rv, m6, hc, hf, nd, ln, rl, sl⟩
    refine et_B (ε := pur) (ev_dinE (ev_rvar (i := 3) rfl) m6.pur (ek_int (K := K) (ev_var (i := 6) (x := h) rfl eI))) W6 (.start trivial) _ fun W7 g7' => ?_
    have g7 := g7'.pure
    have G7 := G6.trans g7
    have m7 := m6.gr g7
    have rv7 := rep_g g7 rv
    by_cases hm : h ∈ st.map (·.1)
    · rw [if_pos (decide_eq_true hm)]
      obtain ⟨q0, hq, eq0⟩ := List.mem_map.mp hm
      obtain ⟨h', t⟩ := q0
      have eq0 : h' = h := eq0
      subst eq0
      have kt : klook st h' = some t := klook_memN nd _ hq
      refine ⟨fun σ' H' => ∃ m', m' < st.length ∧ ∃ (st : Stp1) (h : Int) (r' : List Int) (v : V) (fuel : Nat) (W' : Wd), W'.H = H' ∧ σ' = T (some (.ref p3)) (some v4) (some v) (some (.int h)) ∧ m' = st.length ∧ Grow W W' ∧ rep K W'.B v (Tup.mk r') ∧ DMut K W' p3 st ∧ carry fuel st h r' = carry S.2.length S.2 0 (sortI (S.1 ++ [n])) ∧ st.length ≤ fuel ∧ (st.map (·.1)).Nodup ∧ (∀ q ∈ st, q.2.items.length ≤ 8) ∧ r'.length ≤ 8 ∧ st.length ≤ 40, fun σ' H' h => h, ?_⟩
      obtain ⟨ks8, ek8, rk8⟩ := m7.ex
      obtain ⟨vt, hv1, hv2⟩ := rk8.some kt
      refine q_asgL (call2H (popH ?_))
      refine ⟨_, rfl, p3, rfl, .inl ⟨ks8, .inl ek8⟩, _, rfl, ks8, PyKey.key h', vt, ek8, rfl, hv1, v', rfl, ?_⟩
      let W9 : Wd := W7.put p3 (.dK (dropK ks8 (PyKey.key h'))) m7.b
      have m9 : Md [p3] W7 W9 := md_put m7.b
      have s9 : DMut K W9 p3 (kdrop st h') := ⟨m7.b, _, upd_same, KReps.drop rk8 h'⟩
      have G9 : Grow W W9 := Md.fresh G7 m9 f3W
      refine ⟨W9, vt, v', t, Tup.mk r', rfl, rfl, rep_on m9.on hv2, rep_on m9.on rv7, ln _ hq, rl, fun z W10 g10 rz => ?_⟩
      refine s_asg (ε := pur) (K := K) (W := W10) (σ := T (some (.ref p3)) (some v4) (some z) (some (.int h'))) (x := h' + 1) (ev_op (ev_var (x := h') (i := 6) rfl eI) ev_int ro_I0) trivial fun v11 W11 g11 e11 => ?_
      rw [show v11 = V.int (h' + 1) from e11]
      have dl := kdrop_lt kt
      refine ⟨(kdrop st h').length, dl, kdrop st h', h' + 1, asOne t.items r', z, fuel - 1, W11, rfl, rfl, rfl, (G9.trans g10).trans g11.pure, rep_s g11 rz, (s9.gr g10).gr g11.pure, ?_, by omega, kdrop_nodup nd, fun q hq => ln q (kdrop_sub hq), asOne_len (ln _ hq) rl, by omega⟩
      rw [← hc]
      obtain ⟨fu, rfl⟩ : ∃ fu, fuel = fu + 1 := ⟨fuel - 1, by omega⟩
      simp only [carry, Nat.add_sub_cancel]
      rw [kt]
    · rw [if_neg (by simpa using hm)]
      have kn : klook st h = none := klook_none.mpr hm
      rw [carry_none kn] at hc
      refine s_dputE (K := K) (k := h) (x := Tup.mk r') (ev_rvar (i := 3) rfl) m7 (ev_var (i := 5) rfl rv7) (ek_int (K := K) (ev_var (i := 6) (x := h) rfl eI)) (by omega) fun W8 m8 o8 m38 => ?_
      have G8 : Grow W W8 := Md.fresh G7 m8 f3W
      dsimp only
      refine ⟨_, rfl, ?_⟩
      refine ev_lst (K := K) (ε := pur) (xs := ([] : List Int)) (W := W8) (σ := T (some (.ref p3)) (some v4) (some v') (some (.int h))) ea_nil (by decide) W8 (.start trivial) _ fun ul W9 g9 rl9 => mk_left (m38.gr g9.pure) rl9 fun b W10 o10 M10 L10 => k _ W10 (M10 W [] (G8.trans g9.pure) f3W) (by rw [← hc]; exact L10)
end
def sp__law_poured (K : Fg) : Sp := fun vs H Q _ => ∃ (W : Wd) (v u : V) (w : Nat) (S S' : List Int × Stp1), W.H = H ∧ vs = [v, u, .int w] ∧ LeftAt K W v (lv S) ∧ LeftAt K W u (lv S') ∧ Lok w S ∧ Lok w S' ∧ fedS w S + fedS w S' ≤ 1900 ∧ ∀ z W', Grow W W' → LeftAt K W' z (lv (pourS w S S')) → Q z W'.H
theorem len__law_poured {K : Fg} {vs : List V} {H : Hp} {Q : VK} {E : XK} (h : sp__law_poured K vs H Q E) : vs.length = ["_law_one", "_law_another", "_law_wide"].length := by
  obtain ⟨W, v, u, w, S, S', _, rfl, _⟩ := h
  rfl
/-- _law_poured: the slots 0 _law_one, 1 _law_another, 2 _law_wide, 3 _law_rungs, 4 _law_carried, 5 _law_height, 6 _law_some, 7 _law_left, 8 _law_rung, 9 _law_found, 10 _law_number_here -/
abbrev n__law_poured : List Str := ["_law_one", "_law_another", "_law_wide", "_law_rungs", "_law_carried", "_law_height", "_law_some", "_law_left", "_law_rung", "_law_found", "_law_number_here"]
def t__law_poured (K : Fg) : TS := (tSeq (tPar 3 4 (tCons tDNewK (tCons (tC .non) tNil)))
  (tSeq (tFor (iRng1 (tCons (tC (.int 12)) tNil)) (gName 5)
  (tSeq (tAsg (tLc (iTup K (tTup (tCons (tVar 0) (tCons (tVar 1) tNil)))) (gName 7) (tB (tDIn (tVar 5) (tOp (rIxL K) (tVar 7) (tC (.int 0))))) (tDGet (tOp (rIxL K) (tVar 7) (tC (.int 0))) (tVar 5)) [7]) (gName 6))
  (tSeq (tIfS (tTest (tOp oNotN (tVar 4) (tC .non))) (tDrop (tBM K "list" rAppend (tVar 6) (tCons (tVar 4) tNil))) tNext)
  (tSeq (tAsg (tC .non) (gName 4))
  (tSeq (tIfS (tTest (tOp oGt (tCB (rLen K) (tCons (tVar 6) tNil)) (tC (.int 1)))) (tSeq (tAsg (tCall (sp__law_joined K) [] E0 (tCons (tOp (rIxL K) (tVar 6) (tC (.int 0))) (tCons (tOp (rIxL K) (tVar 6) (tC (.int 1))) tNil))) (gName 4))
  (tAsg (tSl (rSlL K) (tVar 6) (tPart (tC (.int 2))) tNoPart) (gName 6))) tNext)
  (tFor (iList K (tVar 6)) (gName 8)
  (sDPut (tVar 3) (tVar 5) (tVar 8))))))))
  (tSeq (tAsg (tLst (tCons (tVar 3) (tCons (tOp (rIxL K) (tVar 0) (tC (.int 1))) tNil))) (gName 9))
  (tSeq (tFor (iList K (tOp (rIxL K) (tVar 1) (tC (.int 1)))) (gName 10)
  (tAsg (tCall (sp__law_with K) [] E0 (tCons (tVar 9) (tCons (tVar 2) (tCons (tVar 10) tNil)))) (gName 9)))
  (tRet (tVar 9))))))
section
variable {K : Fg} {W : Wd} {σ : SS} {te ta tb : TE} {ε : Ef}
theorem lst2L {ta tb : TE} {σ : SS} {H : Hp} {Q : VK} (h : ta σ H fun v H1 => tb σ H1 fun u H2 => [v, u].length ≤ sizeLine ∧ ∀ p, H2 p = none → Q (.ref p) (upd H2 p (.lst [v, u]))) : tLst (tCons ta (tCons tb tNil)) σ H Q := h
theorem ro_notNone {c : Option (Tup Int)} : RO K oNotN c (Raw.mk V.non) c.isSome := ro_val fun v u W1 rv ru Q k => ⟨ru, k _ (by
  cases c with
  | none => rw [show v = V.non from rv]; rfl
  | some r =>
    obtain ⟨a, vs, e, _⟩ := (show rep K W1.B v r from rv)
    rw [e]; rfl)⟩
/-- (v, u): values -/
theorem ev_tupRawV {a b : V} (ha : EvR ε K ta σ W (Raw.mk a)) (hb : EvR ε K tb σ W (Raw.mk b)) : EvR ε K (tTup (tCons ta (tCons tb tNil))) σ W (Tup.mk [Raw.mk a, Raw.mk b]) := fun W1 g1 Q k => ha W1 g1 _ fun v W2 g2 ra => hb W2 (g1.trans g2) _ fun u W3 g3 rb =>
  ⟨Evl.sz_of (by show 2 ≤ 100000; decide), fun p hp => k _ (W3.add p (.tup [v, u])) ((g2.trans g3).and (W3.grow_add hp)) ⟨p, [v, u], rfl, upd_same, .cons ra (.cons rb .nil)⟩⟩
/-- what two lefts have at a height -/
theorem en_twoL {a b : V} {S S' : List Int × Stp1} {h : Int} {i j : Nat} (same : a = b → S = S') (ha : EvR pur K ta σ W (Raw.mk a)) (hb : EvR pur K tb σ W (Raw.mk b)) (ma : LeftAt K W a S) (mb : LeftAt K W b S') (hj : j < σ.length) (hi : ∀ v : V, ((wipe σ [j]).set j (some v))[i]? = some (some (.int h))) :
    EvN pur K (tLc (iTup K (tTup (tCons ta (tCons tb tNil)))) (gName j) (tB (tDIn (tVar i) (tOp (rIxL K) (tVar j) (tC (.int 0))))) (tDGet (tOp (rIxL K) (tVar j) (tC (.int 0))) (tVar i)) [j]) σ W ((klook S.2 h).toList ++ (klook S'.2 h).toList) := by
  classical
  have hset : ∀ u : V, ((wipe σ [j]).set j (some u))[j]? = some (some u) := fun u => by
    rw [List.getElem?_set_self]
    simp [wipe]
    exact hj
  let Ra : Raw := Raw.mk a
  let Rb : Raw := Raw.mk b
  let d : Raw → Stp1 := fun z => if z = Ra then S.2 else S'.2
  have da : d Ra = S.2 := if_pos rfl
  have db : d Rb = S'.2 := by
    by_cases c : Rb = Ra
    · have : a = b := by injection c with c; exact c.symm
      rw [show d Rb = S.2 from if_pos c, same this]
    · exact if_neg c
  have dm : ∀ (x : Raw) (u : V) (W' : Wd), x ∈ [Ra, Rb] → Stp pur W W' → rep K W'.B u x → ∃ c, EvR pur K (tOp (rIxL K) (tVar j) (tC (.int 0))) ((wipe σ [j]).set j (some u)) W' (Raw.mk (.ref c)) ∧ DStay pur K W' c (d x) := fun x u W' hx g r => by
    simp only [List.mem_cons, List.not_mem_nil, or_false] at hx
    rcases hx with rfl | rfl
    · obtain ⟨c, h1, h2, _⟩ := ev_lf0 (ε := pur) (σ := (wipe σ [j]).set j (some u)) (te := tVar j) (v := a) (ev_var (hset u) r) (ma.gr g.pure)
      exact ⟨c, h1, by rw [da]; exact h2⟩
    · obtain ⟨c, h1, h2, _⟩ := ev_lf0 (ε := pur) (σ := (wipe σ [j]).set j (some u)) (te := tVar j) (v := b) (ev_var (hset u) r) (mb.gr g.pure)
      exact ⟨c, h1, by rw [db]; exact h2⟩
  have one : ∀ (z : Raw), (([z].filter fun z => decide (h ∈ (d z).map (·.1))).map fun z => (klook (d z) h).getD ⟨[]⟩) = (klook (d z) h).toList := fun z => by
    cases e : klook (d z) h with
    | none => rw [List.filter_cons_of_neg (by simp only [decide_eq_true_eq]; exact klook_none.mp e)]; rfl
    | some v =>
      have : h ∈ (d z).map (·.1) := Classical.byContradiction fun n => by rw [klook_none.mpr n] at e; cases e
      rw [List.filter_cons_of_pos (by simp only [decide_eq_true_eq]; exact this)]
      simp [e]
  have e0 : (([Ra, Rb].filter fun z => decide (h ∈ (d z).map (·.1))).map fun z => (klook (d z) h).getD ⟨[]⟩) = (klook S.2 h).toList ++ (klook S'.2 h).toList := by
    rw [show [Ra, Rb] = [Ra] ++ [Rb] from rfl, List.filter_append, List.map_append, one, one, da, db]
  rw [← e0]
  refine en_lcNt (α := Raw) (xs := [Ra, Rb]) (p := fun z => decide (h ∈ (d z).map (·.1))) (f := fun z => (klook (d z) h).getD ⟨[]⟩) (ei_tup (xs := Tup.mk [Ra, Rb]) (ev_tupRawV ha hb)).i (fun x u W' hx g r => ?_) (fun x u W' hx hp g r => ?_) (by show 2 ≤ 100000; decide)
  · obtain ⟨c, h1, m⟩ := dm x u W' hx g r
    exact et_B (ev_dinE h1 m (ek_int (K := K) (ev_var (x := h) (hi u) rfl)))
  · obtain ⟨c, h1, m⟩ := dm x u W' hx g r
    have hp := of_decide_eq_true hp
    have hk : klook (d x) h = some ((klook (d x) h).getD ⟨[]⟩) := by
      cases z : klook (d x) h with
      | none => exact absurd hp (klook_none.mp z)
      | some v => rfl
    exact ev_dgetE h1 m (ek_int (K := K) (ev_var (x := h) (hi u) rfl)) hk
end
section
variable {K : Fg} {vs : List V} {H : Hp} {Q : VK} {E : XK} {C : Addr}
theorem rd__law_poured (h : sp__law_poured K vs H Q E) : t__law_poured K { nx := fun _ H' => Q .non H', rt := Q } (start n__law_poured vs) H := by
  obtain ⟨W, v, u, w, S, S', rfl, rfl, r, r', lo, lo', hb, k⟩ := h
  have same : v = u → lv S = lv S' := fun e => left_uniq r (by rw [e]; exact r')
  have eI : ∀ {i : Int} {W : Wd}, rep K W.B (V.int i) i := rfl
  obtain ⟨l1, l2, l3, _⟩ := add_end lo.w1 lo.w8 lo.k lo'.k lo.rg lo'.rg (by have f1 : fedS w S = (S.1.length : Int) + Wt w S.2 := rfl; have f2 : fedS w S' = (S'.1.length : Int) + Wt w S'.2 := rfl; omega)
  let T : Option V → Option V → Option V → Option V → Option V → Option V → Option V → Option V → SS := fun v3 v4 v5 v6 v7 v8 v9 v10 => [some v, some u, some (.int w), v3, v4, v5, v6, v7, v8, v9, v10]
  show tSeq _ _ _ (T none none none none none none none none) W.H
  refine q_par2L ?_
  refine em_new (κ := Int) (α := Tup Int) (K := K) (ε := pur) (W := W) (σ := T none none none none none none none none) W (.start trivial) _ fun p3 W1 g1' f3 m3 => ?_
  have g1 := g1'.pure
  refine ev_non (K := K) (ε := pur) (W := W1) (σ := T none none none none none none none none) W1 (.start trivial) _ fun v4 W2 g2' e4 => ⟨_, _, rfl, ?_⟩
  have g2 := g2'.pure
  rw [show v4 = V.non from e4]
  show tSeq _ _ _ (T (some (.ref p3)) (some .non) none none none none none none) W2.H
  refine q_for (ε := pur) (K := K) (W := W2) (σ := T (some (.ref p3)) (some .non) none none none none none none) (ei_rng1 (n := 12) ev_int (by decide) (by decide)) trivial fun W3 g3' => ?_
  have g3 := g3'.pure
  have f3W : W.H p3 = none := f3
  refine ⟨fun h σ' W' => ∃ (v4 : V) (v5 v6 v7 v8 : Option V), σ' = T (some (.ref p3)) (some v4) v5 v6 v7 v8 none none ∧ On W3 W' ∧ Grow W W' ∧ DMut K W' p3 (addF S.2 S'.2 h).1 ∧ rep K W'.B v4 (addF S.2 S'.2 h).2,
    ⟨.non, none, none, none, none, rfl, .refl _, g1.trans (g2.trans g3), m3.gr (g2.trans g3), rfl⟩, fun h σ' W' ⟨_, _, _, _, _, _, o, _⟩ => o, ?_, ?_⟩
  · rintro h hv vx σ' W4' W4 hi hhv ⟨v4, v5, v6, v7, v8, rfl, o4', G4', m4', r4'⟩ g4 rx
    rw [rng_len] at hi
    have hi : h < 12 := hi
    have hhv : (rng 0 12)[h]? = some hv := hhv
    have ehv : hv = (h : Int) := by
      rw [rng_get hi] at hhv
      have := Option.some.inj hhv
      omega
    rw [show vx = V.int hv from rx, ehv]
    have G4 := G4'.trans g4
    have o4 := o4'.trans g4.on
    have m4 := m4'.gr g4
    have r4 := rep_g g4 r4'
    have A := add_ok lo.w8 lo.rg lo'.rg h
    have nx2 : (addF S.2 S'.2 (h + 1)).2 = (stepP (klook S.2 (h : Int)) (klook S'.2 (h : Int)) (addF S.2 S'.2 h).2).2 := rfl
    have nx1 : (addF S.2 S'.2 (h + 1)).1 = (match (stepP (klook S.2 (h : Int)) (klook S'.2 (h : Int)) (addF S.2 S'.2 h).2).1 with | some r => kput (addF S.2 S'.2 h).1 (h : Int) r | none => (addF S.2 S'.2 h).1) := rfl
    have al : (addF S.2 S'.2 h).1.length ≤ 100 := by
      have := nodup_le (l := (addF S.2 S'.2 h).1.map (·.1)) (m := rng 0 12) A.k.nd fun z hz => by
        obtain ⟨q, hq, rfl⟩ := List.mem_map.mp hz
        have a1 := A.lt q hq
        have a2 := A.k.nn q hq
        unfold rng
        exact List.mem_map.mpr ⟨q.1.toNat, List.mem_range.mpr (by omega), by omega⟩
      rw [List.length_map, rng_len] at this
      omega
    have rr8 : ∀ z ∈ rungsAt (klook S.2 (h : Int)) (klook S'.2 (h : Int)) (addF S.2 S'.2 h).2, z.items.length ≤ 8 := fun z hz => by
      have w8 := lo.w8
      rcases rungsAt_mem hz with e | e | e
      · have := (lo.rg _ (klook_mem e)).ln; have e2 : z.items.length = w := this; omega
      · have := (lo'.rg _ (klook_mem e)).ln; have e2 : z.items.length = w := this; omega
      · have := (A.cg z e).ln; omega
    have sl := step_lists (klook S.2 (h : Int)) (klook S'.2 (h : Int)) (addF S.2 S'.2 h).2
    generalize (addF S.2 S'.2 h).2 = cc at *
    generalize (addF S.2 S'.2 h).1 = acc at *
    have kt : ∀ o : Option (Tup Int), o.toList.length ≤ 1 := fun o => by cases o <;> simp
    have k1 := kt (klook S.2 (h : Int))
    have k2 := kt (klook S'.2 (h : Int))
    show tSeq _ _ _ (T (some (.ref p3)) (some v4) (some (.int h)) v6 v7 v8 none none) W4.H
    refine q_asgN (ε := pur) (K := K) (W := W4) (σ := T (some (.ref p3)) (some v4) (some (.int h)) v6 v7 v8 none none) (en_twoL (S := lv S) (S' := lv S') (i := 5) (j := 7) (h := (h : Int)) same (ev_var (x := Raw.mk v) (i := 0) rfl rfl) (ev_var (x := Raw.mk u) (i := 1) rfl rfl) (r.gr G4) (r'.gr G4) (by show 7 < 11; decide) (fun v => rfl)) trivial fun p6 us W5 g5' f6 b6 h6 rs6 => ?_
    have g5 := g5'.pure
    have l6 : LMut K W5 p6 ((klook S.2 (h : Int)).toList ++ (klook S'.2 (h : Int)).toList) := ⟨b6, us, h6, rs6⟩
    have f6W : W.H p6 = none := was_noneL G4 f6
    have m5 := m4.gr g5
    have r5 := rep_g g5 r4
    have n36 : p3 ≠ p6 := fun z => by
      obtain ⟨ks, e, _⟩ := m4.ex
      rw [z, f6] at e
      cases e
    show tSeq _ _ _ (T (some (.ref p3)) (some v4) (some (.int h)) (some (.ref p6)) v7 v8 none none) W5.H
    have fixd : ∀ {W6 : Wd} {rs : List (Tup Int)}, Grow W W6 → On W4 W6 → DMut K W6 p3 acc → LMut K W6 p6 rs → ∃ W7, W7.H = W6.H ∧ Grow W W7 ∧ On W4 W7 ∧ DMut K W7 p3 acc ∧ rep K W7.B (.ref p6) rs := fun {W6 rs} G6 o6 m6 l6 => by
      obtain ⟨o, ho, rp, ex, mono⟩ := l6.fix
      obtain ⟨ks, ek, rk⟩ := m6.ex
      exact ⟨W6.fix p6 o ho, rfl, mono W [] G6 f6W, o6.trans ⟨ex, fun _ _ _ z => z⟩, ⟨(upd_ne n36).trans m6.b, ks, ek, KReps.mono (exExt ex) rk⟩, rp⟩
    refine seqGL (fun σ' H' => ∃ (W7 : Wd), W7.H = H' ∧ σ' = T (some (.ref p3)) (some v4) (some (.int h)) (some (.ref p6)) v7 v8 none none ∧ Grow W W7 ∧ On W4 W7 ∧ DMut K W7 p3 acc ∧ rep K W7.B (.ref p6) (rungsAt (klook S.2 (h : Int)) (klook S'.2 (h : Int)) cc)) (fun Z hZ => ?_) ?_
    · refine s_when (ε := pur) (W := W5) (σ := T (some (.ref p3)) (some v4) (some (.int h)) (some (.ref p6)) v7 v8 none none) (b := cc.isSome) (et_test (ev_op (K := K) (ev_var (x := cc) (i := 4) rfl r5) (ev_raw (K := K)) ro_notNone)) trivial (fun hz W6 g6' => ?_) (fun hz W6 g6' => ?_)
      · have g6 := g6'.pure
        cases cc with
        | none => cases hz
        | some rg =>
          refine s_append (K := K) (σ := T (some (.ref p3)) (some v4) (some (.int h)) (some (.ref p6)) v7 v8 none none) (i := 6) rfl (l6.gr g6) (ev_var (x := rg) (i := 4) rfl (rep_g g6 r5)) (by rw [List.length_append]; omega) fun W7 m7 o7 l7 => ?_
          obtain ⟨W8, e8, G8, o8, m8, r8⟩ := fixd (Md.fresh (G4.trans (g5.trans g6)) m7 f6W) ((g5.on.trans g6.on).trans o7) ((m5.gr g6).g m7 (by simpa using n36)) l7
          rw [← e8]
          exact hZ _ _ ⟨W8, rfl, rfl, G8, o8, m8, r8⟩
      · have g6 := g6'.pure
        cases cc with
        | some rg => cases hz
        | none =>
          obtain ⟨W8, e8, G8, o8, m8, r8⟩ := fixd (G4.trans (g5.trans g6)) (g5.on.trans g6.on) (m5.gr g6) (l6.gr g6)
          rw [← e8]
          exact hZ _ _ ⟨W8, rfl, rfl, G8, o8, m8, by unfold rungsAt; rw [Option.toList_none, List.append_nil]; exact r8⟩
    · rintro _ _ ⟨W7, rfl, rfl, G7, o7, m7, r7⟩
      refine q_asg (ε := pur) (K := K) (W := W7) (σ := T (some (.ref p3)) (some v4) (some (.int h)) (some (.ref p6)) v7 v8 none none) (ev_non (K := K)) trivial fun v4' W8 g8' e8 => ?_
      have g8 := g8'.pure
      rw [show v4' = V.non from e8]
      have r8 := rep_g g8 r7
      show tSeq _ _ _ (T (some (.ref p3)) (some .non) (some (.int h)) (some (.ref p6)) v7 v8 none none) W8.H
      refine seqGL (fun σ' H' => ∃ (W9 : Wd) (v4 v6 : V), W9.H = H' ∧ σ' = T (some (.ref p3)) (some v4) (some (.int h)) (some v6) v7 v8 none none ∧ Grow W W9 ∧ On W4 W9 ∧ DMut K W9 p3 acc ∧ rep K W9.B v4 (stepP (klook S.2 (h : Int)) (klook S'.2 (h : Int)) cc).2 ∧ rep K W9.B v6 (stepP (klook S.2 (h : Int)) (klook S'.2 (h : Int)) cc).1.toList) (fun Z hZ => ?_) ?_
      · rw [sl.2] at hZ
        have sl2 := sl.1
        generalize (stepP (klook S.2 (h : Int)) (klook S'.2 (h : Int)) cc).2 = cy at *
        generalize rungsAt (klook S.2 (h : Int)) (klook S'.2 (h : Int)) cc = rs at *
        refine s_when (ε := pur) (W := W8) (σ := T (some (.ref p3)) (some .non) (some (.int h)) (some (.ref p6)) v7 v8 none none) (b := decide ((rs.length : Int) > 1)) (et_test (ev_op (K := K) (ev_cb1 (ev_var (i := 6) rfl r8) rc_len) ev_int ro_B0)) trivial (fun hz W9 g9' => ?_) (fun hz W9 g9' => ?_)
        · have g9 := g9'.pure
          match rs, hz, sl2, rr8, r8 with
          | x :: y :: t, hz, sl2, rr8, r8 =>
            have r9 := rep_g g9 r8
            have ecy : cy = some (asT x y) := by
              cases cy with
              | none => cases sl2
              | some z => simpa [carryL] using sl2
            show tSeq _ _ _ (T (some (.ref p3)) (some .non) (some (.int h)) (some (.ref p6)) v7 v8 none none) W9.H
            refine q_asg (ε := pur) (K := K) (W := W9) (σ := T (some (.ref p3)) (some .non) (some (.int h)) (some (.ref p6)) v7 v8 none none) (x := asT x y) (ev_callP2 (P := fun v W => rep K W.B v x) (P2 := fun v W => rep K W.B v y) (ev_ixT0 (rs := x :: y :: t) (n := ((0 : Nat) : Int)) (i := 6) rfl r9 (atI_nat rfl)) (ev_ixT0 (rs := x :: y :: t) (n := ((1 : Nat) : Int)) (i := 6) rfl r9 (atI_nat rfl)) (fun v W W' g h => rep_s g h) fun v1 v2 W1 g1 q1 q2 Q k => ⟨W1, v1, v2, x, y, rfl, rfl, q1, q2, rr8 x (by simp), rr8 y (by simp), fun z W2 g2 rz => k z W2 (.of g2) rz⟩) trivial fun v4'' W10 g10' r10 => ?_
            have g10 := g10'.pure
            refine s_asg (ε := pur) (K := K) (W := W10) (σ := T (some (.ref p3)) (some v4'') (some (.int h)) (some (.ref p6)) v7 v8 none none) (x := t) ((ev_slL (ev_var (i := 6) rfl (rep_g g10 r9)) (eo_some (K := K) ev_int) eo_none).is (by rw [show (2 : Int) = ((2 : Nat) : Int) from rfl, cut_from (by simp)]; rfl)) trivial fun v6' W11 g11' r11 => ?_
            have g11 := g11'.pure
            have GG := g8.trans (g9.trans (g10.trans g11))
            exact hZ _ _ ⟨W11, v4'', v6', rfl, rfl, G7.trans GG, o7.trans GG.on, m7.gr GG, by rw [ecy]; exact rep_g g11 r10, r11⟩
          | [], hz, _, _, _ => simp at hz
          | [x], hz, _, _, _ => simp at hz
        · have g9 := g9'.pure
          have hz := of_decide_eq_false hz
          match rs, hz, sl2, rr8, r8 with
          | x :: y :: t, hz, _, _, _ => simp at hz; omega
          | [], hz, sl2, rr8, r8 =>
            have ecy : cy = none := by
              cases cy with
              | none => rfl
              | some z => cases sl2
            exact hZ _ _ ⟨W9, .non, .ref p6, rfl, rfl, G7.trans (g8.trans g9), o7.trans (g8.trans g9).on, m7.gr (g8.trans g9), by rw [ecy]; rfl, rep_g g9 r8⟩
          | [x], hz, sl2, rr8, r8 =>
            have ecy : cy = none := by
              cases cy with
              | none => rfl
              | some z => cases sl2
            exact hZ _ _ ⟨W9, .non, .ref p6, rfl, rfl, G7.trans (g8.trans g9), o7.trans (g8.trans g9).on, m7.gr (g8.trans g9), by rw [ecy]; rfl, rep_g g9 r8⟩
      · rintro _ _ ⟨W9, v4, v6, rfl, rfl, G9, o9, m9, r94, r96⟩
        generalize (stepP (klook S.2 (h : Int)) (klook S'.2 (h : Int)) cc).1 = lft at *
        refine s_for (ε := pur) (K := K) (W := W9) (σ := T (some (.ref p3)) (some v4) (some (.int h)) (some v6) v7 v8 none none) (ei_list (ev_var (x := lft.toList) (i := 6) rfl r96)) trivial fun W10 g10' => ?_
        have g10 := g10'.pure
        refine ⟨fun i σ' W' => ∃ (v8 : Option V), σ' = T (some (.ref p3)) (some v4) (some (.int h)) (some v6) v7 v8 none none ∧ On W10 W' ∧ Grow W W' ∧ DMut K W' p3 ((lft.toList.take i).foldl (fun st r => kput st (h : Int) r) acc),
          ⟨v8, rfl, .refl _, G9.trans g10, m9.gr g10⟩, fun i σ' W' ⟨_, _, o, _⟩ => o, ?_, ?_⟩
        · rintro i rg vr σ' W11' W11 hi2 hrg ⟨v8, rfl, o11', G11', m11'⟩ g11 rr
          have lk := kt lft
          have i0 : i = 0 := by omega
          subst i0
          have G11 := G11'.trans g11
          have m11 : DMut K W11 p3 acc := m11'.gr g11
          refine s_dputE (K := K) (k := (h : Int)) (x := rg) (ev_rvar (i := 3) rfl) m11 (ev_var (x := rg) (i := 8) rfl rr) (ek_int (K := K) (ev_var (i := 5) (x := (h : Int)) rfl eI)) (by omega) fun W12 m12 o12 m312 => ?_
          refine ⟨W12, rfl, some vr, rfl, (o11'.trans g11.on).trans o12, Md.fresh G11 m12 f3W, ?_⟩
          rw [List.take_add_one, hrg]
          exact m312
        · rintro σ' W11 ⟨v8, rfl, o11, G11, m11⟩
          rw [List.take_length] at m11
          refine ⟨W11, rfl, v4, some (.int h), some v6, v7, v8, rfl, ((o4.trans o9).trans g10.on).trans o11, G11, ?_, ?_⟩
          · rw [nx1]
            cases lft with
            | none => exact m11
            | some rg => exact m11
          · rw [nx2]
            exact rep_on o11 (rep_g g10 r94)
  · rintro σ' W4 ⟨v4, v5, v6, v7, v8, rfl, o4, G4, m4, r4⟩
    rw [rng_len] at m4
    have m4 : DMut K W4 p3 (addF S.2 S'.2 12).1 := m4
    have base : Lok w (S.1, (addF S.2 S'.2 12).1) := ⟨lo.w1, lo.w8, lo.fl, lo.fn, (add_ok lo.w8 lo.rg lo'.rg 12).k, (add_ok lo.w8 lo.rg lo'.rg 12).rg⟩
    have fb : fedS w (S.1, (addF S.2 S'.2 12).1) + (S'.1.length : Int) = fedS w S + fedS w S' := by
      have wt12 := (add_end lo.w1 lo.w8 lo.k lo'.k lo.rg lo'.rg (by have f1 : fedS w S = (S.1.length : Int) + Wt w S.2 := rfl; have f2 : fedS w S' = (S'.1.length : Int) + Wt w S'.2 := rfl; omega)).2.2.2
      have f1 : fedS w S = (S.1.length : Int) + Wt w S.2 := rfl
      have f2 : fedS w S' = (S'.1.length : Int) + Wt w S'.2 := rfl
      have f3 : fedS w (S.1, (addF S.2 S'.2 12).1) = (S.1.length : Int) + Wt w (addF S.2 S'.2 12).1 := rfl
      rw [wt12] at f3
      omega
    show tSeq _ _ _ (T (some (.ref p3)) (some v4) v5 v6 v7 v8 none none) W4.H
    refine q_asgL (lst2L ?_)
    refine ⟨_, rfl, ?_⟩
    refine ev_lf1 (K := K) (ε := pur) (S := lv S) (v := v) (σ := T (some (.ref p3)) (some v4) v5 v6 v7 v8 none none) (te := tVar 0) (ev_var (x := Raw.mk v) (i := 0) rfl rfl) (r.gr G4) W4 (.start trivial) _ fun ul W5 g5 rl => ⟨Evl.sz_of (by show 2 ≤ 100000; decide), fun b hb6 => ?_⟩
    obtain ⟨W6, e6, o6, M6, L6⟩ := mk_leftE (m4.gr g5.pure) rl b hb6
    rw [← e6]
    have G6 := M6 W [] (G4.trans g5.pure) f3W
    show tSeq _ _ _ (T (some (.ref p3)) (some v4) v5 v6 v7 v8 (some (.ref b)) none) W6.H
    refine q_for (ε := pur) (K := K) (W := W6) (σ := T (some (.ref p3)) (some v4) v5 v6 v7 v8 (some (.ref b)) none) (xs := sortI S'.1) (ei_list (ev_lf1 (K := K) (S := lv S') (v := u) (te := tVar 1) (ev_var (x := Raw.mk u) (i := 1) rfl rfl) (r'.gr G6))) trivial fun W7 g7' => ?_
    have g7 := g7'.pure
    refine ⟨fun i σ' W' => ∃ (v9 : V) (v10 : Option V), σ' = T (some (.ref p3)) (some v4) v5 v6 v7 v8 (some v9) v10 ∧ On W7 W' ∧ Grow W W' ∧ LeftAt K W' v9 (lv (((sortI S'.1).take i).foldl (feedF w) (S.1, (addF S.2 S'.2 12).1))),
      ⟨.ref b, none, rfl, .refl _, G6.trans g7, L6.gr g7⟩, fun i σ' W' ⟨_, _, _, o, _⟩ => o, ?_, ?_⟩
    · rintro i x vx σ' W8' W8 hi hx ⟨v9, v10, rfl, o8', G8', L8'⟩ g8 rx
      rw [show vx = V.int x from rx]
      have tk : (sortI S'.1).take (i + 1) = (sortI S'.1).take i ++ [x] := by rw [List.take_add_one, hx]; rfl
      have nr : NumR x := lo'.fn x ((sortI_perm _).mem_iff.mp (List.mem_of_getElem? hx))
      obtain ⟨lt, ft⟩ := lok_feeds ((sortI S'.1).take i) base fun z hz => lo'.fn z ((sortI_perm _).mem_iff.mp (List.mem_of_mem_take hz))
      have tl : ((sortI S'.1).take i).length ≤ S'.1.length := by rw [List.length_take, (sortI_perm _).length_eq]; omega
      have lks := lok_lks lt (by omega)
      refine ⟨_, rfl, _, rfl, _, rfl, W8, v9, w, _, x, rfl, rfl, L8'.gr g8, ⟨lks.w1, lks.w8, by show (sortI _).length < w; rw [(sortI_perm _).length_eq]; exact lks.fl, lks.k, lks.ks, lks.ln⟩, fun z W9 g9 L9 => ?_⟩
      rw [with_lv lt.fl] at L9
      refine ⟨W9, rfl, z, _, rfl, (o8'.trans g8.on).trans g9.on, G8'.trans (g8.trans g9), ?_⟩
      rw [tk, List.foldl_append]
      exact L9
    · rintro σ' W8 ⟨v9, v10, rfl, o8, G8, L8⟩
      rw [List.take_length] at L8
      exact ⟨_, rfl, k v9 W8 G8 L8⟩
end
end B
/-! k51: alike, plain, refused -/
namespace B
open PySem L2
open PySem.W (Tup T3 T4 Datum DatumOrd)
open Evl (Ex)
def names51 : List Str := ["NoKeeper"]
structure Refd (K : Fg) (x : Str) : Prop where
  e : BX.ErrC K (cErr K x)
  l : PySem.W.exmOne K (.ref (cErr K x)) (.ref (cErr K "LeftError")) = some true
  ks : ∀ n ∈ names51, PySem.W.kitOne K (.ref (cErr K x)) (.ref (cErr K n)) = some (decide (n = x))
def AllK (K : Fg) (x : Str) : List Str → Prop
  | [] => True
  | n :: l => PySem.W.kitOne K (.ref (cErr K x)) (.ref (cErr K n)) = some (decide (n = x)) ∧ AllK K x l
theorem refd_mk {K : Fg} {x : Str} : ∀ l : List Str, AllK K x l → ∀ n ∈ l, PySem.W.kitOne K (.ref (cErr K x)) (.ref (cErr K n)) = some (decide (n = x))
  | [], _, n, h => by cases h
  | m :: l, ⟨h1, h2⟩, n, h => by
    rcases List.mem_cons.mp h with e | e
    · rw [e]; exact h1
    · exact refd_mk l h2 n e
def sp__law_alike (K : Fg) (C : Addr) : Sp := fun vs H Q _ => ∃ (W : Wd) (x f s : Addr) (w : Nat) (S : List Int × Stp1) (v : V), W.H = H ∧ vs = [.ref x, v] ∧ LadAt K C W x f s w S ∧ LeftAt K W v (lv S) ∧ ∀ W', Grow W W' → Q (.bl true) W'.H
theorem len__law_alike {K : Fg} {C : Addr} {vs : List V} {H : Hp} {Q : VK} {E : XK} (h : sp__law_alike K C vs H Q E) : vs.length = ["_law_ladder", "_law_left"].length := by
  obtain ⟨W, x, f, s, w, S, v, _, rfl, _⟩ := h
  rfl
/-- _law_alike: the slots 0 _law_ladder, 1 _law_left -/
abbrev n__law_alike : List Str := ["_law_ladder", "_law_left"]
def t__law_alike (K : Fg) (c_Ladder : Addr) : TS := (tRet (tAndV (tOp (rEqQ K) (tMeth c_Ladder "rungs" (sp_Ladder_rungs K c_Ladder) [] E0 (tVar 0) tNil) (tOp (rIxL K) (tVar 1) (tC (.int 0)))) (tOp (rEqT K false) (tMeth c_Ladder "loose" (sp_Ladder_loose K c_Ladder) [] E0 (tVar 0) tNil) (tCB (rTupleO K) (tCons (tOp (rIxL K) (tVar 1) (tC (.int 1))) tNil)))))
def sp__law_plain (K : Fg) (C : Addr) : Sp := fun vs H Q _ => ∃ (W : Wd) (x f s : Addr) (w : Nat) (S : List Int × Stp1), W.H = H ∧ vs = [.ref x] ∧ LadAt K C W x f s w S ∧ Lok w S ∧ fedS w S ≤ 900 ∧ ∀ u W', Grow W W' → rep K W'.B u (Tup.mk (plainL (lv S))) → Q u W'.H
theorem len__law_plain {K : Fg} {C : Addr} {vs : List V} {H : Hp} {Q : VK} {E : XK} (h : sp__law_plain K C vs H Q E) : vs.length = ["_law_ladder"].length := by
  obtain ⟨W, x, f, s, w, S, _, rfl, _⟩ := h
  rfl
/-- _law_plain: the slots 0 _law_ladder, 1 _law_found, 2 _law_rungs, 3 _law_height -/
abbrev n__law_plain : List Str := ["_law_ladder", "_law_found", "_law_rungs", "_law_height"]
def t__law_plain (K : Fg) (c_Ladder : Addr) : TS := (tSeq (tPar 1 2 (tCons (tLst tNil) (tCons (tMeth c_Ladder "rungs" (sp_Ladder_rungs K c_Ladder) [] E0 (tVar 0) tNil) tNil)))
  (tSeq (tFor (iList K (tRevL K (tCB rSortedDI (tCons (tVar 2) tNil)))) (gName 3)
  (tAsg (tOp rCat (tVar 1) (tOp rRep (tCB (rListO K) (tCons (tDGet (tVar 2) (tVar 3)) tNil)) (tOp oShl (tC (.int 1)) (tVar 3)))) (gName 1)))
  (tRet (tCB (rTupleO K) (tCons (tOp rCat (tVar 1) (tCB (rListO K) (tCons (tMeth c_Ladder "loose" (sp_Ladder_loose K c_Ladder) [] E0 (tVar 0) tNil) tNil))) tNil)))))
def sp__law_refused (K : Fg) (C : Addr) : Sp := fun vs H Q _ => ∃ (W : Wd) (x f s : Addr) (w : Nat) (S : List Int × Stp1) (v : V), W.H = H ∧ vs = [.ref x, v] ∧ LadAt K C W x f s w S ∧ (KdOf K C v W ∨ ∃ (y f' s' : Addr) (w' : Nat) (S' : List Int × Stp1), v = .ref y ∧ LadAt K C W y f' s' w' S' ∧ w' ≠ w) ∧ ∀ W', Grow W W' → Q (.bl true) W'.H
theorem len__law_refused {K : Fg} {C : Addr} {vs : List V} {H : Hp} {Q : VK} {E : XK} (h : sp__law_refused K C vs H Q E) : vs.length = ["_law_ladder", "_law_thing"].length := by
  obtain ⟨W, x, f, s, w, S, v, _, rfl, _⟩ := h
  rfl
/-- _law_refused: the slots 0 _law_ladder, 1 _law_thing, 2 _law_kept, 3 _law_caught, 4 e -/
abbrev n__law_refused : List Str := ["_law_ladder", "_law_thing", "_law_kept", "_law_caught", "e"]
def t__law_refused (K : Fg) (c_Ladder : Addr) : TS := (tSeq (tPar 2 3 (tCons (tMeth c_Ladder "twin" (sp_Ladder_twin K c_Ladder) [] E0 (tVar 0) tNil) (tCons (tC .non) tNil)))
  (tSeq (BX.tTryK K (cErr K "NoKeeper") 4 (fun W => (tDrop (tMethTS c_Ladder "pour" (sp_Ladder_pour K c_Ladder) (WE W) (tVar 0) (tCons (tVar 1) tNil)))) (fun a cls d => (tAsg (tVar 4) (gName 3))))
  (tRet (tAndV (tCB (BX.rIsK K) (tCons (tVar 3) (tCons (tC (.ty "ValueError")) tNil))) (tOp (rInsEq c_Ladder (sp_Ladder___eq__ K c_Ladder) E0) (tVar 0) (tVar 2))))))
section
variable {K : Fg} {vs : List V} {H : Hp} {Q : VK} {E : XK} {C : Addr}
theorem rungs_deq {st : Stp1} (k : StK st) : deq (rungsL st) st = true := deq_self (by rw [rungsL_keys]; exact (sortI_perm _).nodup_iff.mpr k.nd) k.nd (klook_rungsL k)
theorem rd__law_alike (c : LadderC K C) (h : sp__law_alike K C vs H Q E) : t__law_alike K C { nx := fun _ H' => Q .non H', rt := Q } (start n__law_alike vs) H := by
  obtain ⟨W, x, f, s, w, S, v, rfl, rfl, r, L, k⟩ := h
  have e1 : EvR pur K (tOp (rEqQ K) (tMeth C "rungs" (sp_Ladder_rungs K C) [] E0 (tVar 0) tNil) (tOp (rIxL K) (tVar 1) (tC (.int 0)))) [some (.ref x), some v] W true := fun W1 g1 Q q => opH (em_rungs (K := K) (C := C) (ev_rvar (i := 0) rfl) (r.gr g1.pure) W1 (.start trivial) _ fun p W2 g2 f2 m2 => by
    obtain ⟨d, hd, ds, _⟩ := ev_lf0 (ε := pur) (σ := [some (.ref x), some v]) (te := tVar 1) (v := v) (ev_var (x := Raw.mk v) (i := 1) rfl rfl) (L.gr (g1.trans g2).pure)
    refine hd W2 (.start trivial) _ fun u W3 g3 eu => ?_
    obtain ⟨ks, k1, r1⟩ := (m2.gr g3.pure).ex
    obtain ⟨ls, k2, r2⟩ := ds W3 g3
    refine ⟨8, deq (rungsL S.2) S.2, by decide, ⟨p, d, rfl, eu, .inr (.inr ⟨ks, ls, _, k1, k2, fun _ => hits_deq (n := 7) r2 W3.sub (by decide) r1, ?_⟩)⟩, by rw [rungs_deq r.ok.k]; exact q _ W3 (g2.trans g3) rfl⟩
    rw [KReps.len r1, KReps.len r2]
    rfl)
  refine s_ret (ε := pur) (K := K) (x := true) ((ev_andV (a := true) (b := true) e1 fun _ => (ev_op (x := Tup.mk (sortI S.1)) (y := Tup.mk (sortI S.1)) (ev_loose c (ev_rvar (i := 0) rfl) r) (ev_cb1 (ev_lf1 (S := lv S) (v := v) (te := tVar 1) (ev_var (x := Raw.mk v) (i := 1) rfl rfl) L) rc_tupL) (ro_eqT (by decide))).is (by simp)).is rfl) trivial fun z W1 g1 rz => ?_
  rw [show z = V.bl true from rz]
  exact k W1 g1.pure
theorem rd__law_plain (c : LadderC K C) (h : sp__law_plain K C vs H Q E) : t__law_plain K C { nx := fun _ H' => Q .non H', rt := Q } (start n__law_plain vs) H := by
  obtain ⟨W, x, f, s, w, S, rfl, rfl, r, lo, hb, k⟩ := h
  have eI : ∀ {i : Int} {W : Wd}, rep K W.B (V.int i) i := rfl
  have kl : S.2.length ≤ 40 := lok_len r.ok
  have rl : (rungsL S.2).length = S.2.length := (rungs_perm lo.k).length_eq
  have ndr : ((rungsL S.2).map (·.1)).Nodup := by rw [rungsL_keys]; exact (sortI_perm _).nodup_iff.mpr lo.k.nd
  let T : Option V → Option V → Option V → SS := fun v1 v2 v3 => [some (.ref x), v1, v2, v3]
  show tSeq _ _ _ (T none none none) W.H
  refine q_par2L ?_
  refine ev_lst (K := K) (ε := pur) (xs := ([] : List Int)) (W := W) (σ := T none none none) ea_nil (by decide) W (.start trivial) _ fun v1 W1 g1 r1 => ?_
  refine em_rungs (K := K) (C := C) (σ := T none none none) (ev_rvar (i := 0) rfl) (r.gr g1.pure) W1 (.start trivial) _ fun p2 W2 g2 f2 m2 => ⟨_, _, rfl, ?_⟩
  have G2 := g1.pure.trans g2.pure
  show tSeq _ _ _ (T (some v1) (some (.ref p2)) none) W2.H
  have ek : (sortI ((rungsL S.2).map (·.1))).reverse = ((rungsL S.2).reverse).map (·.1) := by
    rw [rungsL_keys, List.map_reverse, rungsL_keys]
    congr 1
    exact sort_self (sortI_pw _)
  refine q_for (ε := pur) (K := K) (W := W2) (σ := T (some v1) (some (.ref p2)) none) (xs := ((rungsL S.2).reverse).map (·.1)) (ei_list ((ev_revL (ev_sortedDE (ev_rvar (i := 2) rfl) m2.pur (by omega))).is ek)) trivial fun W3 g3 => ?_
  refine ⟨fun i σ' W' => ∃ (v1 : V) (v3 : Option V), σ' = T (some v1) (some (.ref p2)) v3 ∧ Grow W3 W' ∧ rep K W'.B v1 (rowsOf ((rungsL S.2).reverse.take i)), ⟨v1, none, rfl, .refl _ _, rep_s g3 (rep_s g2 r1)⟩, fun i σ' W' ⟨_, _, _, g, _⟩ => g.on, ?_, ?_⟩
  · rintro i hk vx σ' W4' W4 hi hx ⟨v1, v3, rfl, G4', r4'⟩ g4 rx
    rw [show vx = V.int hk from rx]
    rw [List.getElem?_map] at hx
    obtain ⟨q, hq, rfl⟩ := Option.map_eq_some_iff.mp hx
    have qm : q ∈ rungsL S.2 := List.mem_reverse.mp (List.mem_of_getElem? hq)
    have qS := (rungsL_mem lo.k q).mp qm
    have rg := lo.rg q qS
    have q0 := lo.k.nn q qS
    have w1 := lo.w1
    have w8 := lo.w8
    have wm := wt_mem (w := w) qS
    have f1 : fedS w S = (S.1.length : Int) + Wt w S.2 := rfl
    have b2 : ((2 : Int) ^ q.1.toNat) ≤ (w : Int) * (2 : Int) ^ q.1.toNat := by
      have p0 : 0 ≤ (2 : Int) ^ q.1.toNat := Int.pow_nonneg (by decide)
      have := Int.mul_le_mul_of_nonneg_right (show (1 : Int) ≤ (w : Int) by omega) p0
      omega
    have p1 : (1 : Int) ≤ (2 : Int) ^ q.1.toNat := by
      have := Nat.one_le_two_pow (n := q.1.toNat)
      have e : ((2 ^ q.1.toNat : Nat) : Int) = (2 : Int) ^ q.1.toNat := by push_cast; rfl
      omega
    have q40 := r.ok.ks q qS
    have m4 := m2.gr (g3.pure.trans (G4'.trans g4))
    have tk : (rungsL S.2).reverse.take (i + 1) = (rungsL S.2).reverse.take i ++ [q] := by rw [List.take_add_one, hq]; rfl
    have tn : ((2 : Int) ^ q.1.toNat).toNat = 2 ^ q.1.toNat := by
      have e : ((2 ^ q.1.toNat : Nat) : Int) = (2 : Int) ^ q.1.toNat := by push_cast; rfl
      omega
    have len1 : (rowsOf ((rungsL S.2).reverse.take i)).length + (List.replicate (2 ^ q.1.toNat) q.2.items).flatten.length ≤ 1000 := by
      have e := rows_len (w := w) ((rungsL S.2).reverse.take (i + 1)) fun z hz => (lo.rg z ((rungsL_mem lo.k z).mp (List.mem_reverse.mp (List.mem_of_mem_take hz)))).ln
      have e2 : (rowsOf ((rungsL S.2).reverse.take (i + 1))).length = (rowsOf ((rungsL S.2).reverse.take i)).length + (List.replicate (2 ^ q.1.toNat) q.2.items).flatten.length := by
        rw [tk]; unfold rowsOf; rw [List.flatMap_append, List.length_append]; simp
      have e3 := rows_len (w := w) (rungsL S.2).reverse fun z hz => (lo.rg z ((rungsL_mem lo.k z).mp (List.mem_reverse.mp hz))).ln
      have e4 : (rowsOf ((rungsL S.2).reverse.take (i + 1))).length ≤ (rowsOf (rungsL S.2).reverse).length := by
        have := (List.take_sublist (i + 1) (rungsL S.2).reverse)
        conv => rhs; rw [← List.take_append_drop (i + 1) (rungsL S.2).reverse]
        unfold rowsOf
        rw [List.flatMap_append, List.length_append]
        omega
      have e5 := plain_len lo
      unfold plainL at e5
      rw [List.length_append] at e5
      omega
    refine s_asg (ε := pur) (K := K) (W := W4) (σ := T (some v1) (some (.ref p2)) (some (.int q.1))) (x := rowsOf ((rungsL S.2).reverse.take (i + 1))) ((ev_op (ev_var (i := 1) rfl (rep_g g4 r4')) (ev_op (ev_cb1 (ev_dgetE (x := q.2) (ev_rvar (i := 2) rfl) m4.pur (ek_int (K := K) (ev_var (x := q.1) (i := 3) rfl eI)) (klook_memN ndr q qm)) rc_listT) (ev_op (x := (1 : Int)) (y := q.1) (z := (1 : Int) * (2 : Int) ^ q.1.toNat) ev_int (ev_var (x := q.1) (i := 3) rfl eI) (ro_I ⟨by omega, by omega, by simp⟩)) (ro_rep (by omega) (by omega) (by rw [rg.ln]; omega))) (ro_cat (by rw [Int.one_mul, tn]; omega))).is (by rw [tk, Int.one_mul, tn]; unfold rowsOf; rw [List.flatMap_append]; simp)) trivial fun v1' W5 g5 r5 => ⟨W5, rfl, v1', _, rfl, G4'.trans (g4.trans g5.pure), r5⟩
  · rintro σ' W4 ⟨v1, v3, rfl, G4, r4⟩
    rw [List.length_map, List.take_length] at r4
    have G24 := G2.trans (g3.pure.trans G4)
    have e5 := plain_len lo
    unfold plainL at e5
    rw [List.length_append] at e5
    exact s_ret (ε := pur) (K := K) (W := W4) (σ := T (some v1) (some (.ref p2)) v3) (x := Tup.mk (plainL (lv S))) (ev_cb1 (ev_op (ev_var (i := 1) rfl r4) (ev_cb1 (ev_loose c (ev_rvar (i := 0) rfl) (r.gr G24)) rc_listT) (ro_cat (by show _ + (sortI S.1).length ≤ _; rw [(sortI_perm _).length_eq]; omega))) rc_tupL) trivial fun u W5 g5 ru => k u W5 (G24.trans g5.pure) ru
end
theorem kL (m : Str) (h : (decide (m = "wide") || decide (m = "free") || decide (m = "steps")) = false) : ¬ m = "wide" ∧ ¬ m = "free" ∧ ¬ m = "steps" := by
  simp only [Bool.or_eq_false_iff, decide_eq_false_iff_not] at h
  exact ⟨h.1.1, h.1.2, h.2⟩
theorem ktw : ¬ (("twin" : Str) = "wide") ∧ ¬ (("twin" : Str) = "free") ∧ ¬ (("twin" : Str) = "steps") := kL _ (by decide +kernel)
def NewLad (K : Fg) (C : Addr) (W : Wd) (w : Nat) (S : List Int × Stp1) (v : V) (W' : Wd) : Prop := ∃ y f s, v = .ref y ∧ LadAt K C W' y f s w S ∧ W.H y = none ∧ W.H f = none ∧ W.H s = none
section
variable {K : Fg} {C : Addr} {W : Wd} {σ : SS} {x f s : Addr} {w : Nat} {S : List Int × Stp1}
theorem ep_ltwin {te : TE} (hd : EvR pur K te σ W (Raw.mk (.ref x))) (r : LadAt K C W x f s w S) : EvP pur (tMeth C "twin" (sp_Ladder_twin K C) [] E0 te tNil) σ W (NewLad K C W w S) := fun W1 g1 Q k => hd W1 g1 _ fun v W2 g2 e => by
  have G := (g1.trans g2).pure
  have r2 := r.gr G
  obtain ⟨dx, hx⟩ := r2.ex
  rw [show v = V.ref x from e]
  exact ⟨x, dx, _, rfl, hx, lf_no ktw.1 ktw.2.1 ktw.2.2, W2, x, f, s, w, S, rfl, rfl, r2, fun y f' s' W3 g3 r3 hy hf hs => k _ W3 (g2.trans (.of g3)) ⟨y, f', s', rfl, r3, was_noneL G hy, was_noneL G hf, was_noneL G hs⟩⟩
end
section
variable {K : Fg} {vs : List V} {H : Hp} {Q : VK} {E : XK} {C : Addr}
theorem eqS_self {w : Nat} {S : List Int × Stp1} (k : StK S.2) : eqS w S w S = true := by
  unfold eqS
  rw [deq_self k.nd k.nd fun _ => rfl]
  simp
theorem rd__law_refused (c : LadderC K C) (rk : Refd K "NoKeeper") (ex : PySem.W.exmOne K (.ref (cErr K "NoKeeper")) (.ref (cErr K "NoKeeper")) = some true) (h : sp__law_refused K C vs H Q E) : t__law_refused K C { nx := fun _ H' => Q .non H', rt := Q } (start n__law_refused vs) H := by
  obtain ⟨W, x, f, s, w, S, v, rfl, rfl, r, hu, k⟩ := h
  let T : Option V → Option V → Option V → SS := fun v2 v3 v4 => [some (.ref x), some v, v2, v3, v4]
  show tSeq _ _ _ (T none none none) W.H
  refine q_par2L ?_
  refine ep_ltwin (K := K) (C := C) (σ := T none none none) (ev_rvar (i := 0) rfl) r W (.start trivial) _ fun v2 W1 g1 ⟨y2, f2, s2, e2, ry, h1, h2, h3⟩ => ?_
  refine ev_non (K := K) (ε := pur) (W := W1) (σ := T none none none) W1 (.start trivial) _ fun v3 W2 g2 e3 => ⟨_, _, rfl, ?_⟩
  rw [e2, show v3 = V.non from e3]
  have G2 := g1.pure.trans g2.pure
  have r2 := r.gr G2
  have ry2 := ry.gr g2.pure
  have ns : s ≠ s2 := fun z => by
    obtain ⟨ks, e, _⟩ := r.ms.ex
    rw [z, h3] at e
    cases e
  have told : ∀ (W3 : Wd) (a : Addr), Grow W2 W3 → W3.H a = some (BX.ExK (.ref (cErr K "NoKeeper")) none a) → (tRet (tAndV (tCB (BX.rIsK K) (tCons (tVar 3) (tCons (tC (.ty "ValueError")) tNil))) (tOp (rInsEq C (sp_Ladder___eq__ K C) E0) (tVar 0) (tVar 2)))) { nx := fun _ H' => Q .non H', rt := Q } (T (some (.ref y2)) (some (.ref a)) none) W3.H := fun W3 a G3 ha => by
    have fin : EvR pur K (tCB (BX.rIsK K) (tCons (tVar 3) (tCons (tC (.ty "ValueError")) tNil))) (T (some (.ref y2)) (some (.ref a)) none) W3 true := fun W5 g5 Q k =>
      ⟨_, rfl, a, cErr K "NoKeeper", .ty "ValueError", .type "ValueError", true, rfl, g5.pure.h a _ ha, rk.e.c, fun u h => by cases h; rfl, rk.e.v, k _ W5 g5.rf rfl⟩
    have eq : EvR pur K (tOp (rInsEq C (sp_Ladder___eq__ K C) E0) (tVar 0) (tVar 2)) (T (some (.ref y2)) (some (.ref a)) none) W3 true := fun W4 g4 Q q => by
      have rx4 := r2.gr (G3.trans g4.pure)
      have ry4 := ry2.gr (G3.trans g4.pure)
      obtain ⟨dx, hx⟩ := rx4.ex
      obtain ⟨dy, hy⟩ := ry4.ex
      refine ⟨_, rfl, _, rfl, x, y2, dx, dy, _, _, rfl, rfl, hx, hy, .inl ⟨W4, x, f, s, y2, f2, s2, w, w, S, S, rfl, rfl, rx4, ry4, fun z => absurd z ns, fun W5 g5 => ?_⟩⟩
      rw [eqS_self r.ok.k]
      exact q _ W5 (.of g5) rfl
    refine s_ret (ε := pur) (K := K) (x := true) ((ev_andV (a := true) (b := true) fin fun _ => eq).is rfl) trivial fun z W5 g5 rz => ?_
    rw [show z = V.bl true from rz]
    exact k W5 (G2.trans (G3.trans g5.pure))
  show tSeq _ _ _ (T (some (.ref y2)) (some .non) none) W2.H
  obtain ⟨dx, hx⟩ := r2.ex
  refine ⟨_, rfl, x, dx, _, rfl, hx, lf_no (by decide +kernel) (by decide +kernel) (by decide +kernel), _, rfl, .inr ⟨W2, x, f, s, w, S, v, rfl, rfl, r2, ?_, fun W3 g3 => ⟨true, ex, fun _ a ha => ⟨_, rfl, fun ha' => told (W3.put a _ (W3.free ha)) a (g3.trans (W3.grow_put ha)) upd_same⟩, fun z => by cases z⟩⟩⟩
  rcases hu with ⟨t, h1, h2⟩ | ⟨y, f', s', w', S', e, ry', ne⟩
  · exact .inl ⟨t, fun W' g => h1 W' (G2.trans g), h2⟩
  · exact .inr ⟨y, f', s', w', S', e, ry'.gr G2, ne⟩
end
end B
/-! k51: ladders, each apart from the others -/
namespace B
open PySem L2
open PySem.W (Tup T3 T4 Datum DatumOrd)
open Evl (Ex)
/-- a thing that may change: where it stands, what is told of it -/
structure Thing where
  as : List Addr
  P : Wd → Prop
  mono : ∀ {W W' : Wd} {S : List Addr}, P W → Md S W W' → (∀ a ∈ as, a ∉ S) → P W'
  dom : ∀ {W : Wd} {a : Addr}, P W → a ∈ as → W.H a ≠ none
  fx : ∀ {W : Wd} {p : Addr} {o : HO} (h : W.H p = some o), W.B p = none → P W → p ∉ as → P (W.fix p o h)
theorem LMut.fx {α : Type} [Py α] {K : Fg} {W : Wd} {d p : Addr} {xs : List α} {o : HO} (h : W.H p = some o) (n : W.B p = none) (m : LMut K W d xs) (ne : p ≠ d) : LMut K (W.fix p o h) d xs := by
  obtain ⟨vs, e, r⟩ := m.ex
  exact ⟨(upd_ne ne.symm).trans m.b, vs, e, Reps.mono (exExt (ex_fix h n)) r⟩
theorem DMut.fx {κ α : Type} [PyKey κ] [Py α] {K : Fg} {W : Wd} {d p : Addr} {kv : List (κ × α)} {o : HO} (h : W.H p = some o) (n : W.B p = none) (m : DMut K W d kv) (ne : p ≠ d) : DMut K (W.fix p o h) d kv := by
  obtain ⟨vs, e, r⟩ := m.ex
  exact ⟨(upd_ne ne.symm).trans m.b, vs, e, KReps.mono (exExt (ex_fix h n)) r⟩
theorem LadAt.fx {K : Fg} {C : Addr} {W : Wd} {x f s p : Addr} {w : Nat} {S : List Int × Stp1} {o : HO} (h : W.H p = some o) (n : W.B p = none) (r : LadAt K C W x f s w S) (n1 : p ≠ x) (n2 : p ≠ f) (n3 : p ≠ s) : LadAt K C (W.fix p o h) x f s w S := ⟨(upd_ne n1.symm).trans r.b, r.ex, r.mf.fx h n n2, r.ms.fx h n n3, r.ok⟩
theorem Sd.fx {K : Fg} {W : Wd} {p q : Addr} {o : HO} (h : W.H q = some o) (n : W.B q = none) (s : Sd K W p) (ne : q ≠ p) : Sd K (W.fix q o h) p := by
  obtain ⟨cv, cs, a, r, t, m, s⟩ := s.ex
  exact ⟨cv, cs, a, r, t, m, (upd_ne ne.symm).trans s.b, s.h, Py.mono (exExt (ex_fix h n)) s.c, s.l, s.pos, s.a0, s.r0, s.t0, s.m0⟩
abbrev Things := Nat → Nat → Option Thing
structure All (W : Wd) (f : Things) : Prop where
  at_ : ∀ g k q, f g k = some q → q.P W
  ap : ∀ g k q g' k' q', f g k = some q → f g' k' = some q' → (g ≠ g' ∨ k ≠ k') → ∀ a ∈ q.as, a ∉ q'.as
def thput (f : Things) (g k : Nat) (q : Thing) : Things := fun g' k' => if g' = g ∧ k' = k then some q else f g' k'
theorem thput_same {f : Things} {g k : Nat} {q : Thing} : thput f g k q g k = some q := if_pos ⟨rfl, rfl⟩
theorem thput_ne {f : Things} {g k g' k' : Nat} {q : Thing} (h : g' ≠ g ∨ k' ≠ k) : thput f g k q g' k' = f g' k' := if_neg (by rintro ⟨rfl, rfl⟩; rcases h with h | h <;> exact h rfl)
section
variable {W W' : Wd} {f : Things} {g k : Nat} {q q' : Thing} {S : List Addr}
theorem All.gr (h : All W f) (m : Grow W W') : All W' f := ⟨fun g k q e => q.mono (h.at_ g k q e) m (by simp), h.ap⟩
theorem All.none_ (W : Wd) : All W (fun _ _ => none) := ⟨(by intro g k q e; cases e), (by intro g k q g' k' q' e; cases e)⟩
/-- the thing at (g, k) has changed -/
theorem All.chg (h : All W f) (e : f g k = some q) (m : Md S W W') (hS : ∀ a ∈ S, a ∈ q.as) (hq : q'.P W') (hn : ∀ a ∈ q'.as, a ∈ q.as ∨ W.H a = none) : All W' (thput f g k q') := by
  have other : ∀ g2 k2 r, f g2 k2 = some r → (g2 ≠ g ∨ k2 ≠ k) → (∀ a ∈ r.as, a ∉ q.as) ∧ (∀ a ∈ r.as, a ∉ q'.as) := fun g2 k2 r er hne => by
    have h1 := h.ap _ _ _ _ _ _ er e hne
    refine ⟨h1, fun a ha z => ?_⟩
    rcases hn a z with y | y
    · exact h1 a ha y
    · exact r.dom (h.at_ _ _ _ er) ha y
  refine ⟨fun g2 k2 r er => ?_, fun g2 k2 r g3 k3 r' er er' hne a ha hb => ?_⟩
  · by_cases c : g2 = g ∧ k2 = k
    · obtain ⟨rfl, rfl⟩ := c
      rw [thput_same] at er
      cases er; exact hq
    · have c' : g2 ≠ g ∨ k2 ≠ k := by
        by_cases c1 : g2 = g
        · exact .inr fun c2 => c ⟨c1, c2⟩
        · exact .inl c1
      rw [thput_ne c'] at er
      exact r.mono (h.at_ _ _ _ er) m fun a ha z => (other _ _ _ er c').1 a ha (hS a z)
  · by_cases c : g2 = g ∧ k2 = k
    · obtain ⟨rfl, rfl⟩ := c
      rw [thput_same] at er
      cases er
      have c' : g3 ≠ g2 ∨ k3 ≠ k2 := hne.imp Ne.symm Ne.symm
      rw [thput_ne c'] at er'
      exact (other _ _ _ er' c').2 a hb ha
    · have c' : g2 ≠ g ∨ k2 ≠ k := by
        by_cases c1 : g2 = g
        · exact .inr fun c2 => c ⟨c1, c2⟩
        · exact .inl c1
      rw [thput_ne c'] at er
      by_cases d : g3 = g ∧ k3 = k
      · obtain ⟨rfl, rfl⟩ := d
        rw [thput_same] at er'
        cases er'
        exact (other _ _ _ er c').2 a ha hb
      · have d' : g3 ≠ g ∨ k3 ≠ k := by
          by_cases c1 : g3 = g
          · exact .inr fun c2 => d ⟨c1, c2⟩
          · exact .inl c1
        rw [thput_ne d'] at er'
        exact h.ap _ _ _ _ _ _ er er' hne a ha hb
/-- it stays as it is, though it was touched -/
theorem All.keep (h : All W f) (e : f g k = some q) (m : Md S W W') (hS : ∀ a ∈ S, a ∈ q.as) (hq : q.P W') : All W' f := by
  have := h.chg (q' := q) e m hS hq fun a ha => .inl ha
  have e2 : thput f g k q = f := by
    funext g' k'
    by_cases c : g' = g ∧ k' = k
    · obtain ⟨rfl, rfl⟩ := c; rw [thput_same, e]
    · exact if_neg c
  rwa [e2] at this
/-- a new thing -/
theorem All.new (h : All W f) (m : Grow W W') (hq : q.P W') (hn : ∀ a ∈ q.as, W.H a = none) (e : f g k = none) : All W' (thput f g k q) := by
  have other : ∀ g2 k2 r, f g2 k2 = some r → ∀ a ∈ r.as, a ∉ q.as := fun g2 k2 r er a ha z => r.dom (h.at_ _ _ _ er) ha (hn a z)
  refine ⟨fun g2 k2 r er => ?_, fun g2 k2 r g3 k3 r' er er' hne a ha hb => ?_⟩
  · unfold thput at er
    split at er
    · cases er; exact hq
    · exact (h.gr m).at_ _ _ _ er
  · unfold thput at er er'
    split at er
    · rename_i c
      cases er
      split at er'
      · rename_i c'
        obtain ⟨rfl, rfl⟩ := c
        obtain ⟨rfl, rfl⟩ := c'
        rcases hne with z | z <;> exact z rfl
      · exact other _ _ _ er' a hb ha
    · split at er'
      · cases er'; exact other _ _ _ er a ha hb
      · exact h.ap _ _ _ _ _ _ er er' hne a ha hb
theorem All.get (h : All W f) (e : f g k = some q) : q.P W := h.at_ _ _ _ e
theorem All.off (h : All W f) {g2 k2 : Nat} {r : Thing} (e : f g k = some q) (e' : f g2 k2 = some r) (hne : g ≠ g2 ∨ k ≠ k2) {a : Addr} (ha : a ∈ q.as) : a ∉ r.as := h.ap _ _ _ _ _ _ e e' hne a ha
end
/-- a list that changes -/
def lstT {α : Type} [Py α] (K : Fg) (a : Addr) (xs : List α) : Thing := ⟨[a], fun W => LMut K W a xs, fun h m ha => h.g m (ha _ (by simp)), fun h ha => by
  rw [List.mem_singleton.mp ha]; exact h.nt.ne, fun h n r ha => r.fx h n (by simpa using ha)⟩
/-- one more, apart from all -/
theorem All.add {W : Wd} {f : Things} {g k : Nat} {q : Thing} (h : All W f) (hq : q.P W) (hn : ∀ g k r, f g k = some r → ∀ a ∈ r.as, a ∉ q.as) (e : f g k = none) : All W (thput f g k q) := by
  refine ⟨fun g2 k2 r er => ?_, fun g2 k2 r g3 k3 r' er er' hne a ha hb => ?_⟩
  · unfold thput at er
    split at er
    · cases er; exact hq
    · exact h.at_ _ _ _ er
  · unfold thput at er er'
    split at er
    · rename_i c
      cases er
      split at er'
      · rename_i c'
        obtain ⟨rfl, rfl⟩ := c
        obtain ⟨rfl, rfl⟩ := c'
        rcases hne with z | z <;> exact z rfl
      · exact hn _ _ _ er' a hb ha
    · split at er'
      · cases er'; exact hn _ _ _ er a ha hb
      · exact h.ap _ _ _ _ _ _ er er' hne a ha hb
/-- [e for x in xs], e making things -/
theorem en_lcI {α : Type} [Py α] {K : Fg} {wi : TI} {te : TE} {σ : SS} {W : Wd} {j : Nat} {xs : List α} (hi : EvI pur K wi σ W xs) (I : List V → Things → Prop) {f0 : Things} (hA : All W f0) (h0 : I [] f0)
    (he : ∀ x v vs f W1, xs[vs.length]? = some x → Grow W W1 → rep K W1.B v x → All W1 f → I vs f → EvP pur te ((wipe σ [j]).set j (some v)) W1 (fun u W2 => ∃ g k q, I (vs ++ [u]) (thput f g k q) ∧ f g k = none ∧ q.P W2 ∧ ∀ a ∈ q.as, W1.H a = none)) (hl : xs.length ≤ 100000) :
    ∀ W1, Grow W W1 → ∀ Q : VK, (∀ p vs f W2, Grow W1 W2 → W1.H p = none → W2.B p = none → W2.H p = some (.lst vs) → vs.length = xs.length → All W2 f → I vs f → (∀ g k q, f g k = some q → p ∉ q.as) → Q (.ref p) W2.H) → tLc wi (gName j) tYes te [j] σ W1.H Q := fun W1 g1 Q k =>
  hi W1 (.of g1) _ fun J S W2 g2 s2 sg src D hD => by
    have A0 := hA.gr g1
    have hap0 : ∀ g k q, f0 g k = some q → D ∉ q.as := fun g k q e z => q.dom ((A0.gr g2.pure).at_ _ _ _ e) z hD
    refine ⟨fun i m H => m = xs.length - i ∧ i ≤ xs.length ∧ ∃ Wi vs f, Wi.H = H ∧ Md [] W2 Wi ∧ Wi.B D = none ∧ Wi.H D = some (.lst vs) ∧ vs.length = i ∧ All Wi f ∧ I vs f ∧ (∀ g k q, f g k = some q → D ∉ q.as),
      ⟨xs.length, rfl, Nat.zero_le _, W2.put D (.lst []) (W2.free hD), [], f0, rfl, W2.grow_put hD, W2.free hD, upd_same, rfl, (A0.gr g2.pure).gr (W2.grow_put hD), h0, hap0⟩, ?_⟩
    rintro i m H ⟨rfl, hle, Wi, vs, f, rfl, gi, bD, hDi, hvl, A, hI, hap⟩
    have si : S Wi := sg _ _ s2 (.of gi)
    by_cases hlt : i < xs.length
    · refine .inr ⟨src.go i Wi si hlt, fun H => i + 1 ≤ xs.length ∧ ∃ Wi vs f, Wi.H = H ∧ Md [] W2 Wi ∧ Wi.B D = none ∧ Wi.H D = some (.lst vs) ∧ vs.length = i + 1 ∧ All Wi f ∧ I vs f ∧ (∀ g k q, f g k = some q → D ∉ q.as), fun H' h' => ⟨_, by omega, rfl, h'⟩, fun v H'' hy => ?_⟩
      obtain ⟨x, W3, rfl, g3, hx, r⟩ := src.yld i Wi v H'' si hlt hy
      have m3 := g3.mut (S := []) (by simp) hDi bD
      refine ⟨wipe1, ?_⟩
      refine et_yes (ε := pur) W3 (.start trivial) _ fun W4 g4 => ?_
      rw [if_pos rfl]
      have m4 := g4.pure.mut (S := []) (by simp) m3.1 m3.2
      have G4 : Grow W W4 := g1.trans (g2.pure.trans (gi.trans (g3.trans g4.pure)))
      have A4 := A.gr (g3.trans g4.pure)
      refine he x v vs f W4 (by rw [hvl]; exact hx) G4 (rep_s g4 r) A4 hI W4 (.start trivial) _ fun u W5 g5 ⟨g, kk, q, e1, e2, e3, e4⟩ => ?_
      have m5 := g5.pure.mut (S := []) (by simp) m4.1 m4.2
      have A5 : All W5 (thput f g kk q) := A4.new g5.pure e3 e4 e2
      have ap5 : ∀ g' k' q', thput f g kk q g' k' = some q' → D ∉ q'.as := fun g' k' q' e => by
        unfold thput at e
        split at e
        · cases e
          intro z
          have := e4 D z
          rw [m4.1] at this; cases this
        · exact hap _ _ _ e
      have M : Md [D] W5 (W5.put D (.lst (vs ++ [u])) m5.2) := md_put m5.2
      refine ⟨vs, m5.1, Evl.sz_lt (by omega), hlt, W5.put D _ m5.2, vs ++ [u], _, rfl, Md.fresh (gi.trans (g3.trans (g4.pure.trans g5.pure))) M hD, m5.2, upd_same, by simp [hvl], ⟨fun g' k' q' e => ?_, A5.ap⟩, e1, ap5⟩
      exact q'.mono (A5.at_ _ _ _ e) M fun a ha hb => ap5 g' k' q' e (by rw [← List.mem_singleton.mp hb]; exact ha)
    · have e : i = xs.length := by omega
      subst e
      exact .inl ⟨src.stop _ Wi si (Nat.le_refl _), k D vs f Wi (g2.pure.trans gi) (was_noneL g2.pure hD) bD hDi hvl A hI hap⟩
/-! ### lists that may change, read and stored -/
section
variable {α β : Type} [Py α] [Py β] {K : Fg} {W W' : Wd} {d e : Addr} {xs : List α} {ys : List β} {σ : SS} {ε : Ef} {tb te : TE} {i j : Nat}
theorem ev_ixM {r : Int} {x : α} (hd : σ[i]? = some (some (.ref d))) (m : ∀ W', Stp ε W W' → LMut K W' d xs) (hi : EvR ε K tb σ W r) (h : atI xs r = some x) : EvR ε K (tOp (rIxL K) (tVar i) tb) σ W x := fun W1 g1 Q k => ⟨_, hd, hi W1 g1 _ fun v W2 g2 rv => by
  obtain ⟨vs, e, rr⟩ := (m W2 (g1.trans g2)).ex
  obtain ⟨w, h1, h2⟩ := reps_at rr h
  exact ⟨d, vs, r, w, rfl, rv, SqL.of e, h1, k w W2 g2 h2⟩⟩
theorem LMut.pur (m : LMut K W d xs) : ∀ W', Stp pur W W' → LMut K W' d xs := fun _ g => m.gr g.pure
theorem ei_zipM (h1 : σ[i]? = some (some (.ref d))) (h2 : σ[j]? = some (some (.ref e))) (m1 : LMut K W d xs) (m2 : LMut K W e ys) : EvI pur K (iZip K (tCons (tVar i) (tCons (tVar j) tNil))) σ W (xs.zip ys) := fun W1 g1 R k => by
  obtain ⟨vs, e1, r1⟩ := (m1.gr g1.pure).ex
  obtain ⟨us, e2, r2⟩ := (m2.gr g1.pure).ex
  refine ⟨_, h1, _, h2, d, e, vs, us, rfl, SqL.of e1, SqL.of e2, k (Itz K d e) (fun W' => Grow W1 W') W1 g1.rf (.refl _ _) (fun _ _ a b => a.trans b.pure) ⟨fun i W' o hi => ?_, fun i W' v H'' o hi ⟨T, x, y, f1, hT, f2, f3, f4⟩ => ?_, fun i W' o hi => ?_⟩⟩
  · have hi' : i < xs.length ∧ i < ys.length := by simp at hi; omega
    obtain ⟨x, hx⟩ : ∃ x, xs[i]? = some x := ⟨xs[i], by simp [hi'.1]⟩
    obtain ⟨y, hy⟩ : ∃ x, ys[i]? = some x := ⟨ys[i], by simp [hi'.2]⟩
    obtain ⟨v, h1, _⟩ := Reps.get' r1 hx
    obtain ⟨u, h2, _⟩ := Reps.get' r2 hy
    exact ⟨vs, us, v, u, SqL.of (o.h _ _ e1), SqL.of (o.h _ _ e2), h1, h2⟩
  · obtain ⟨p, h1, h2⟩ := Reps.get r1 (f3 vs (SqL.of (o.h _ _ e1)))
    obtain ⟨q, h3, h4⟩ := Reps.get r2 (f4 us (SqL.of (o.h _ _ e2)))
    refine ⟨(p, q), W'.add T _, f2.symm, W'.grow_add hT, ?_, T, x, y, f1, upd_same, rep_g (W'.grow_add hT) (rex o.b h2), rep_g (W'.grow_add hT) (rex o.b h4)⟩
    rw [List.getElem?_zip_eq_some]
    exact ⟨h1, h3⟩
  · refine ⟨vs, us, SqL.of (o.h _ _ e1), SqL.of (o.h _ _ e2), ?_⟩
    rw [Reps.len r1, Reps.len r2]
    simp at hi
    omega
theorem ei_listM (h1 : σ[i]? = some (some (.ref d))) (m1 : LMut K W d xs) : EvI pur K (iList K (tVar i)) σ W xs := fun W1 g1 R k => by
  obtain ⟨vs, e1, r1⟩ := (m1.gr g1.pure).ex
  refine ⟨_, h1, d, rfl, ⟨vs, SqL.of e1⟩, k (Itl K d) (fun W' => Grow W1 W') W1 g1.rf (.refl _ _) (fun _ _ a b => a.trans b.pure) ⟨fun i W' o hi => ?_, fun i W' v H'' o hi ⟨f1, f2⟩ => ?_, fun i W' o hi => ⟨vs, SqL.of (o.h _ _ e1), by rw [Reps.len r1]; exact hi⟩⟩⟩
  · obtain ⟨x, hx⟩ : ∃ x, xs[i]? = some x := ⟨xs[i], by simp [hi]⟩
    obtain ⟨v, h1, _⟩ := Reps.get' r1 hx
    exact ⟨vs, v, SqL.of (o.h _ _ e1), h1⟩
  · obtain ⟨p, h1, h2⟩ := Reps.get r1 (f2 vs (SqL.of (o.h _ _ e1)))
    exact ⟨p, W', f1.symm, .refl _ _, h1, rex o.b h2⟩
/-- xs[r] = v, the value being there -/
theorem g_setM {r : Nat} {x : α} {v : V} {Q : SS → Hp → Prop} (hd : σ[i]? = some (some (.ref d))) (hr : σ[j]? = some (some (.int r))) (m : LMut K W d xs) (rv : rep K W.B v x) (h : r < xs.length) (k : ∀ W', Md [d] W W' → LMut K W' d (xs.set r x) → Q σ W'.H) : gSub (tVar i) (tVar j) rSetL v σ W.H Q := by
  obtain ⟨vs, e, rr⟩ := m.ex
  exact ⟨_, hd, _, hr, d, vs, _, r, rfl, rfl, e, by rw [Reps.len rr]; exact Evl.ixN_nat h, k (W.put d _ m.b) (md_put m.b) ⟨m.b, _, upd_same, Reps.set rv r rr⟩⟩
end
section
variable {W W' : Wd} {f : Things} {K : Fg} {g k : Nat}
theorem All.lst {α : Type} [Py α] {t : Addr} {xs ys : List α} (h : All W f) (e : f g k = some (lstT K t xs)) (M : Md [t] W W') (r : LMut K W' t ys) : All W' (thput f g k (lstT K t ys)) :=
  h.chg e M (fun a ha => ha) r fun a ha => .inl ha
end
/-- a ladder -/
def ladT (K : Fg) (C : Addr) (x f s : Addr) (w : Nat) (S : List Int × Stp1) : Thing := ⟨[x, f, s], fun W => LadAt K C W x f s w S, fun h m ha => h.g m (ha _ (by simp)) (ha _ (by simp)) (ha _ (by simp)), fun h ha => by
  simp only [List.mem_cons, List.not_mem_nil, or_false] at ha
  rcases ha with rfl | rfl | rfl
  · exact h.nt.ne
  · exact h.mf.nt.ne
  · exact h.ms.nt.ne, fun h n r ha => by
    simp only [List.mem_cons, List.not_mem_nil, or_false, not_or] at ha
    exact r.fx h n ha.1 ha.2.1 ha.2.2⟩
/-- the state of draws -/
def sdT (K : Fg) (p : Addr) : Thing := ⟨[p], fun W => Sd K W p, fun h m ha => h.off m (ha _ (by simp)), fun h ha => by
  rw [List.mem_singleton.mp ha]
  exact h.dom, fun h n r ha => r.fx h n (by simpa using ha)⟩
section
variable {W W' : Wd} {f : Things} {K : Fg} {C : Addr} {p x fa s fa' s' : Addr} {w : Nat} {S S' : List Int × Stp1} {g k : Nat}
theorem All.fixd {p : Addr} {o : HO} (hp : W.H p = some o) (n : W.B p = none) (h : All W f) (off : ∀ g k q, f g k = some q → p ∉ q.as) : All (W.fix p o hp) f := ⟨fun g k q e => q.fx hp n (h.at_ g k q e) (off g k q e), h.ap⟩
theorem All.sub {f' : Things} (h : All W f) (s : ∀ g k q, f' g k = some q → f g k = some q) : All W f' := ⟨fun g k q e => h.at_ g k q (s _ _ _ e), fun g k q g' k' q' e e' => h.ap g k q g' k' q' (s _ _ _ e) (s _ _ _ e')⟩
theorem All.drd (h : All W f) {g k : Nat} (e : f g k = some (sdT K p)) (m : Stp (drd K p) W W') : All W' f := h.keep e m.md (fun a ha => ha) m.i
theorem All.lad (h : All W f) (e : f g k = some (ladT K C x fa s w S)) (M : Md [x, fa, s] W W') (r : LadAt K C W' x fa' s' w S') (n1 : NewL W fa fa') (n2 : NewL W s s') : All W' (thput f g k (ladT K C x fa' s' w S')) :=
  h.chg e M (fun a ha => ha) r fun a ha => by
    simp only [ladT, List.mem_cons, List.not_mem_nil, or_false] at ha ⊢
    rcases ha with rfl | rfl | rfl
    · exact .inl (.inl rfl)
    · rcases n1 with rfl | z
      · exact .inl (.inr (.inl rfl))
      · exact .inr z
    · rcases n2 with rfl | z
      · exact .inl (.inr (.inr rfl))
      · exact .inr z
end
abbrev raws (xs : List Addr) : List Raw := xs.map fun x => Raw.mk (.ref x)
theorem raws_reps {K : Fg} {H : Hp} : ∀ xs : List Addr, Reps K H (xs.map V.ref) (raws xs)
  | [] => .nil
  | x :: xs => .cons rfl (raws_reps xs)
theorem raws_at {xs : List Addr} {k : Nat} {x : Addr} (h : xs[k]? = some x) : atI (raws xs) (k : Int) = some (Raw.mk (.ref x)) := atI_nat (by rw [List.getElem?_map, h]; rfl)
abbrev vals (xs : List V) : List Raw := xs.map Raw.mk
theorem vals_reps {K : Fg} {H : Hp} : ∀ xs : List V, Reps K H xs (vals xs)
  | [] => .nil
  | x :: xs => .cons rfl (vals_reps xs)
theorem vals_at {xs : List V} {k : Nat} {x : V} (h : xs[k]? = some x) : atI (vals xs) (k : Int) = some (Raw.mk x) := atI_nat (by rw [List.getElem?_map, h]; rfl)
/-- one ladder, what the law is left with -/
structure Made (K : Fg) (C : Addr) (w : Nat) (B : Int) (W : Wd) (f : Things) (k : Nat) (x : Addr) (v : V) (S : List Int × Stp1) : Prop where
  t : ∃ fa s, f 1 k = some (ladT K C x fa s w S)
  l : LeftAt K W v (lv S)
  lo : Lok w S
  b : fedS w S ≤ B
theorem Made.on {K : Fg} {C : Addr} {w : Nat} {B : Int} {W W' : Wd} {f f' : Things} {k : Nat} {x : Addr} {v : V} {S : List Int × Stp1} (h : Made K C w B W f k x v S) (o : On W W') (e : f' 1 k = f 1 k) : Made K C w B W' f' k x v S := ⟨by rw [e]; exact h.t, h.l.on o, h.lo, h.b⟩
def sp__law_drawn (K : Fg) (C : Addr) : Sp := fun vs H Q _ => ∃ (W : Wd) (p : Addr) (w : Nat) (gr : Bool), W.H = H ∧ vs = [.ref p, .int w, .bl gr] ∧ Sd K W p ∧ 1 ≤ w ∧ w ≤ 8 ∧
  ∀ (a ma la : Addr) (nv : V) (xs : List Addr) (us : List V) (Ss : List (List Int × Stp1)) (ns : List Int) (f : Things) W', Md [p] W W' → All W' f → f 0 0 = some (sdT K p) → (∀ g k, g ≠ 1 → (g ≠ 0 ∨ k ≠ 0) → f g k = none) → (∀ k, xs.length ≤ k → f 1 k = none) →
    W'.B a = some (.lst [.ref ma, .ref la, nv]) → rep K W'.B (.ref ma) (raws xs) → rep K W'.B (.ref la) (vals us) → rep K W'.B nv ns → (∀ n ∈ ns, NumR n) → ns.length ≤ 270 → 2 ≤ xs.length → xs.length ≤ 3 → us.length = xs.length → Ss.length = xs.length →
    (∀ (k : Nat) x v S, xs[k]? = some x → us[k]? = some v → Ss[k]? = some S → Made K C w (if gr ∧ k < 2 then 270 else 50) W' f k x v S) → Q (.ref a) W'.H
theorem len__law_drawn {K : Fg} {C : Addr} {vs : List V} {H : Hp} {Q : VK} {E : XK} (h : sp__law_drawn K C vs H Q E) : vs.length = ["_law_state", "_law_wide", "_law_great"].length := by
  obtain ⟨W, p, w, gr, _, rfl, _⟩ := h
  rfl
/-- _law_drawn: the slots 0 _law_state, 1 _law_wide, 2 _law_great, 3 _law_made, 4 _law_lefts, 5 _law_numbers_here, 6 _law_k, 7 _law_left, 8 _law_one -/
abbrev n__law_drawn : List Str := ["_law_state", "_law_wide", "_law_great", "_law_made", "_law_lefts", "_law_numbers_here", "_law_k", "_law_left", "_law_one"]
def t__law_drawn (K : Fg) (c_Ladder : Addr) : TS := (tSeq (tPar3 3 4 5 (tCons (tLst tNil) (tCons (tLst tNil) (tCons (tLst tNil) tNil))))
  (tSeq (tFor (iRng1 (tCons (tOp oAdd (tC (.int 2)) (tCall (sp__law_draw K) [] E0 (tCons (tVar 0) (tCons (tC (.int 2)) tNil)))) tNil)) (gName 6)
  (tSeq (tAsg (tCall (sp__law_numbers K) [] E0 (tCons (tVar 0) (tCons (tIf (tAnd (tB (tVar 2)) (tTest (tOp oLt (tVar 6) (tC (.int 2))))) (tOp oSub (tC (.int 270)) (tCall (sp__law_draw K) [] E0 (tCons (tVar 0) (tCons (tC (.int 9)) tNil)))) (tCall (sp__law_draw K) [] E0 (tCons (tVar 0) (tCons (tC (.int 51)) tNil)))) tNil))) (gName 5))
  (tSeq (tIfS (tAnd (tTest (tOp rEq (tVar 6) (tC (.int 0)))) (tTest (tOp rEq (tCall (sp__law_draw K) [] E0 (tCons (tVar 0) (tCons (tC (.int 4)) tNil))) (tC (.int 0))))) (tAsg (tLst tNil) (gName 5)) tNext)
  (tSeq (tDrop (tBM K "list" rAppend (tVar 3) (tCons (tCall (sp_ladder_of K c_Ladder) [] E0 (tCons (tVar 1) (tCons (tVar 5) tNil))) tNil)))
  (tSeq (tAsg (tLst (tCons tDNewK (tCons (tLst tNil) tNil))) (gName 7))
  (tSeq (tFor (iList K (tVar 5)) (gName 8)
  (tAsg (tCall (sp__law_with K) [] E0 (tCons (tVar 7) (tCons (tVar 1) (tCons (tVar 8) tNil)))) (gName 7)))
  (tDrop (tBM K "list" rAppend (tVar 4) (tCons (tVar 7) tNil)))))))))
  (tRet (tLst (tCons (tVar 3) (tCons (tVar 4) (tCons (tVar 5) tNil)))))))
def sp__law_apart (K : Fg) (C : Addr) : Sp := fun vs H Q _ => ∃ (W : Wd) (f : Things) (v u : V) (xs ys : List Addr) (Ss : List (List Int × Stp1)) (w : Nat) (n : Int), W.H = H ∧ vs = [v, u, .int w, .int n] ∧ All W f ∧ rep K W.B v (raws xs) ∧ rep K W.B u (raws ys) ∧ 1 ≤ xs.length ∧ xs.length ≤ 3 ∧ ys.length = xs.length ∧ Ss.length = xs.length ∧ w ≤ 8 ∧ NumR n ∧
  (∀ (k : Nat) x y S, 1 ≤ k → xs[k]? = some x → ys[k]? = some y → Ss[k]? = some S → Lok w S ∧ fedS w S ≤ 1000 ∧ (∃ fa s, f 1 k = some (ladT K C x fa s w S)) ∧ ∃ fa s, f 2 k = some (ladT K C y fa s w S)) ∧
  ∀ W' f', On W W' → All W' f' → (∀ g k, g ≠ 1 ∨ k = 0 → f' g k = f g k) → Q (.bl true) W'.H
theorem len__law_apart {K : Fg} {C : Addr} {vs : List V} {H : Hp} {Q : VK} {E : XK} (h : sp__law_apart K C vs H Q E) : vs.length = ["_law_made", "_law_twins", "_law_wide", "_law_extra"].length := by
  obtain ⟨W, f, v, u, xs, ys, Ss, w, n, _, rfl, _⟩ := h
  rfl
/-- _law_apart: the slots 0 _law_made, 1 _law_twins, 2 _law_wide, 3 _law_extra, 4 _law_k, 5 _law_one, 6 _law_turn -/
abbrev n__law_apart : List Str := ["_law_made", "_law_twins", "_law_wide", "_law_extra", "_law_k", "_law_one", "_law_turn"]
def t__law_apart (K : Fg) (c_Ladder : Addr) : TS := (tSeq (tIfS (tTest (tOp (rEqT K true) (tLc (iRng2 (tCons (tC (.int 1)) (tCons (tCB (rLen K) (tCons (tVar 0) tNil)) tNil))) (gName 4) (tNot (tTest (tOp (rInsEq c_Ladder (sp_Ladder___eq__ K c_Ladder) E0) (tOp (rIxL K) (tVar 0) (tVar 4)) (tOp (rIxL K) (tVar 1) (tVar 4))))) (tVar 4) [4]) (tLst tNil))) (tRet (tC (.bl false))) tNext)
  (tSeq (tFor (iList K (tSl (rSlL K) (tVar 0) (tPart (tC (.int 1))) tNoPart)) (gName 5)
  (tFor (iRng1 (tCons (tVar 2) tNil)) (gName 6)
  (tDrop (tMeth c_Ladder "feed" (sp_Ladder_feed K c_Ladder) [] E0 (tVar 5) (tCons (tVar 3) tNil)))))
  (tRet (tC (.bl true)))))
end B
/-! k51: ladders drawn; those poured in stay apart -/
namespace B
open PySem L2
open PySem.W (Tup T3 T4 Datum DatumOrd)
open Evl (Ex)
theorem kfeA {C x dx : Addr} {w : Int} {f s : Addr} : (lf w f s).lookup ("feed" : Str) = none := lf_no kfe2.1 kfe2.2.1 kfe2.2.2
section
variable {K : Fg} {vs : List V} {H : Hp} {Q : VK} {E : XK} {C : Addr}
/-- == of a ladder and its twin -/
theorem ev_ladEq {W : Wd} {σ : SS} {ta tb : TE} {x fa s y fb t : Addr} {w : Nat} {S : List Int × Stp1} (ha : EvR pur K ta σ W (Raw.mk (.ref x))) (hb : EvR pur K tb σ W (Raw.mk (.ref y))) (r : LadAt K C W x fa s w S) (r' : LadAt K C W y fb t w S) : EvR pur K (tOp (rInsEq C (sp_Ladder___eq__ K C) E0) ta tb) σ W true := fun W1 g1 Q q => ha W1 g1 _ fun v W2 g2 e1 => hb W2 (g1.trans g2) _ fun u W3 g3 e2 => by
  have rx := r.gr ((g1.trans g2).trans g3).pure
  have ry := r'.gr ((g1.trans g2).trans g3).pure
  obtain ⟨dx, hx⟩ := rx.ex
  obtain ⟨dy, hy⟩ := ry.ex
  refine ⟨x, y, dx, dy, _, _, e1, e2, hx, hy, .inl ⟨W3, x, fa, s, y, fb, t, w, w, S, S, rfl, by rw [show v = V.ref x from e1, show u = V.ref y from e2], rx, ry, fun _ => deq_self rx.ok.k.nd rx.ok.k.nd fun _ => rfl, fun W4 g4 => ?_⟩⟩
  rw [eqS_self rx.ok.k]
  exact q _ W4 ((g2.trans g3).and g4) rfl
theorem rd__law_apart (c : LadderC K C) (h : sp__law_apart K C vs H Q E) : t__law_apart K C { nx := fun _ H' => Q .non H', rt := Q } (start n__law_apart vs) H := by
  obtain ⟨W, f, v, u, xs, ys, Ss, w, n, rfl, rfl, A, rx, ry, l1, l3, ly, lS, w8, hn, hk, k⟩ := h
  have eI : ∀ {i : Int} {W : Wd}, rep K W.B (V.int i) i := rfl
  let T : Option V → Option V → Option V → SS := fun v4 v5 v6 => [some v, some u, some (.int w), some (.int n), v4, v5, v6]
  have at_ : ∀ j : Nat, 1 ≤ j → j < xs.length → ∃ x y S, xs[j]? = some x ∧ ys[j]? = some y ∧ Ss[j]? = some S ∧ Lok w S ∧ fedS w S ≤ 1000 ∧ (∃ fa s, f 1 j = some (ladT K C x fa s w S)) ∧ ∃ fa s, f 2 j = some (ladT K C y fa s w S) := fun j h1 hj =>
    ⟨xs[j], ys[j]'(by omega), Ss[j]'(by omega), List.getElem?_eq_getElem hj, List.getElem?_eq_getElem (by omega), List.getElem?_eq_getElem (by omega), hk j _ _ _ h1 (List.getElem?_eq_getElem hj) (List.getElem?_eq_getElem (by omega)) (List.getElem?_eq_getElem (by omega))⟩
  show tSeq _ _ _ (T none none none) W.H
  have len : (((raws xs).length : Nat) : Int) = (xs.length : Int) := by rw [List.length_map]
  refine q_when (ε := pur) (W := W) (σ := T none none none) (b := false) ((et_test (ev_op (K := K) (x := ([] : List Int)) (y := ([] : List Int)) ((ev_lcNt (α := Int) (xs := rng 1 ((xs.length : Int) - 1).toNat) (p := fun _ => false) (f := fun z => z) (EvJ.i (ei_rng2 ev_int ((ev_cb1 (ev_var (i := 0) rfl rx) rc_len).is len) (by omega))) (fun z u' W' hz g rz => ?_) (fun z u' W' hz hp g rz => ev_var (i := 4) rfl rz) (by rw [rng_len]; omega)).is (by simp)) (ev_lst ea_nil (by decide)) (ro_neT (by decide)))).is (by simp)) trivial (fun z => by cases z) fun _ W1 g1' => ?_
  · obtain ⟨i, hi⟩ := List.mem_iff_getElem?.mp hz
    have hil : i < ((xs.length : Int) - 1).toNat := by
      have := (List.getElem?_eq_some_iff.mp hi).1
      rw [rng_len] at this
      exact this
    rw [rng_get hil] at hi
    have ez : z = ((1 + i : Nat) : Int) := by have := Option.some.inj hi; omega
    obtain ⟨x, y, S, h1, h2, h3, lo, hb, ⟨fa, s, e1⟩, fb, t, e2⟩ := at_ (1 + i) (by omega) (by omega)
    have A' := A.gr g.pure
    rw [ez] at rz
    exact (et_not (et_test (ev_ladEq (ev_op (ev_var (i := 0) rfl (rep_s g rx)) (ev_var (i := 4) rfl rz) (ro_ixL (raws_at h1))) (ev_op (ev_var (i := 1) rfl (rep_s g ry)) (ev_var (i := 4) rfl rz) (ro_ixL (raws_at h2))) (A'.get e1) (A'.get e2)))).is rfl
  have g1 := g1'.pure
  have A1 := A.gr g1
  show tSeq _ _ _ (T none none none) W1.H
  refine q_for (ε := pur) (K := K) (W := W1) (σ := T none none none) (xs := (raws xs).drop 1) (ei_list ((ev_slL (ev_var (i := 0) rfl (rep_g g1 rx)) (eo_some (K := K) ev_int) eo_none).is (by rw [show (1 : Int) = ((1 : Nat) : Int) from rfl, cut_from (by rw [List.length_map]; omega)]))) trivial fun W2 g2' => ?_
  have g2 := g2'.pure
  refine ⟨fun i σ' W' => ∃ (f' : Things) (v5 v6 : Option V), σ' = T none v5 v6 ∧ On W2 W' ∧ All W' f' ∧ (∀ g k, g ≠ 1 ∨ k = 0 → f' g k = f g k) ∧ ∀ k, i + 1 ≤ k → f' 1 k = f 1 k,
    ⟨f, none, none, rfl, .refl _, A1.gr g2, fun _ _ _ => rfl, fun _ _ => rfl⟩, fun i σ' W' ⟨_, _, _, _, o, _⟩ => o, ?_, ?_⟩
  · rintro i rw_ vx σ' W3' W3 hi hx ⟨f', v5, v6, rfl, o3', A3', e0, e1⟩ g3 rvx
    rw [List.length_drop, List.length_map] at hi
    rw [List.getElem?_drop] at hx
    obtain ⟨x, y, S, h1, h2, h3, lo, hb, ⟨fa, s, ef⟩, _⟩ := at_ (1 + i) (by omega) (by omega)
    rw [List.getElem?_map, h1] at hx
    have ex : Raw.mk (V.ref x) = rw_ := by simpa using hx
    subst ex
    rw [show vx = V.ref x from rvx]
    have A3 := A3'.gr g3
    have o3 := o3'.trans g3.on
    have ef3 : f' 1 (i + 1) = some (ladT K C x fa s w S) := by rw [e1 (i + 1) (Nat.le_refl _), ← ef, Nat.add_comm]
    show tFor _ _ _ _ (T none (some (.ref x)) v6) W3.H
    refine s_for (ε := pur) (K := K) (W := W3) (σ := T none (some (.ref x)) v6) (xs := rng 0 (w : Int).toNat) (ei_rng1 (n := (w : Int)) (ev_var (x := (w : Int)) (i := 2) rfl eI) (by omega) (by omega)) trivial fun W4 g4' => ?_
    have g4 := g4'.pure
    refine ⟨fun j σ' W' => ∃ (f' : Things) (v6 : Option V) (fa s : Addr) (S' : List Int × Stp1), σ' = T none (some (.ref x)) v6 ∧ On W4 W' ∧ All W' f' ∧ (∀ g k, g ≠ 1 ∨ k = 0 → f' g k = f g k) ∧ (∀ k, i + 2 ≤ k → f' 1 k = f 1 k) ∧ f' 1 (i + 1) = some (ladT K C x fa s w S') ∧ Lok w S' ∧ fedS w S' ≤ 1000 + j,
      ⟨f', v6, fa, s, S, rfl, .refl _, A3.gr g4, e0, fun k hk => e1 k (by omega), ef3, lo, by omega⟩, fun j σ' W' ⟨_, _, _, _, _, _, o, _⟩ => o, ?_, ?_⟩
    · rintro j z vz σ' W5' W5 hj hz ⟨f', v6, fa, s, S', rfl, o5', A5', e0, e1, ef5, lo5, hb5⟩ g5 rz
      rw [rng_len] at hj
      have hj : j < w := by simpa using hj
      have A5 := A5'.gr g5
      have r5 : LadAt K C W5 x fa s w S' := A5.get ef5
      obtain ⟨dx, hx⟩ := r5.ex
      obtain ⟨lo6, hb6⟩ := lok_feed lo5 hn
      refine ⟨_, rfl, x, dx, _, rfl, hx, kfeA (C := C) (x := x) (dx := dx), _, rfl, .inl ⟨W5, x, fa, s, w, S', n, rfl, rfl, r5, hn.1, hn.2, lok_lks lo6 (by omega), fun W6 fa' m6 r6 nw => ?_⟩⟩
      have A6 := A5.lad ef5 m6 r6 nw (.inl rfl)
      exact ⟨W6, rfl, _, _, fa', s, _, rfl, (o5'.trans g5.on).trans m6.on, A6, fun g k h => by rw [thput_ne (by omega)]; exact e0 g k h, fun k hk => by rw [thput_ne (.inr (by omega))]; exact e1 k hk, thput_same, lo6, by push_cast; omega⟩
    · rintro σ' W5 ⟨f', v6, fa, s, S', rfl, o5, A5, e0, e1, _⟩
      exact ⟨W5, rfl, f', _, _, rfl, (o3.trans g4.on).trans o5, A5, e0, fun k hk => e1 k (by omega)⟩
  · rintro σ' W3 ⟨f', v5, v6, rfl, o3, A3, e0, _⟩
    refine s_ret (ε := pur) (K := K) (x := true) ev_bl trivial fun z W4 g4 rz => ?_
    rw [show z = V.bl true from rz]
    exact k W4 f' ((g1.trans g2).on.trans (o3.trans g4.on)) (A3.gr g4.pure) e0
end
theorem rep_dts {K : Fg} {B : Hp} {v : V} {ns : List Int} (h : rep K B v ns) : rep K B v (ns.map PyData.int) := by
  obtain ⟨a, vs, e, s, r⟩ := h
  refine ⟨a, vs, e, s, ?_⟩
  clear s e
  induction r with
  | nil => exact .nil
  | cons h t ih => exact .cons (rep_dt (α := Int) h) ih
theorem nums_map (ns : List Int) : nums (ns.map PyData.int) = ns := by
  unfold nums
  rw [List.map_map]
  exact List.map_id ns
theorem numD_all {ns : List Int} (h : ∀ n ∈ ns, NumR n) : (ns.map PyData.int).all numD = true := List.all_eq_true.mpr fun d hd => by
  obtain ⟨n, hn, rfl⟩ := List.mem_map.mp hd
  have := h n hn
  simp only [numD, numB, Bool.and_eq_true, decide_eq_true_eq]
  exact this
theorem feedL_lok {w : Nat} (h1 : 1 ≤ w) (h8 : w ≤ 8) {ns : List Int} (hn : ∀ n ∈ ns, NumR n) : Lok w (feedL w ns) ∧ fedS w (feedL w ns) = (ns.length : Int) := by
  have base : Lok w ([], []) := ⟨h1, h8, by show 0 < w; omega, fun x h => (by cases h), ⟨.nil, fun q h => (by cases h)⟩, fun q h => (by cases h)⟩
  obtain ⟨a, b⟩ := lok_feeds ns base hn
  refine ⟨a, ?_⟩
  show fedS w (ns.foldl (feedF w) ([], [])) = _
  rw [b]
  show (0 : Int) + 0 + _ = _
  omega
section
variable {K : Fg} {ε : Ef} {t u : TT} {σ : SS} {W : Wd}
theorem etq_and {a : Bool} (h1 : EvT ε t σ W a) (h2 : EvTQ ε u σ W) : EvTQ ε (tAnd t u) σ W := fun W1 g1 Q k => h1 W1 g1 _ fun W2 g2 => by
  cases a with
  | false => exact k false W2 g2
  | true => exact h2 W2 (g1.trans g2) _ fun b W3 g3 => k b W3 (g2.trans g3)
theorem s_whenQ {D : Ends} {tu : TS} (h : EvTQ ε t σ W) (s : ε.I W) (h1 : ∀ W', Stp ε W W' → tu D σ W'.H) (h2 : ∀ W', Stp ε W W' → D.nx σ W'.H) : tIfS t tu tNext D σ W.H := h W (.start s) _ fun b W' g => by
  cases b with
  | true => rw [if_pos rfl]; exact h1 W' g
  | false => rw [if_neg Bool.false_ne_true]; exact h2 W' g
theorem ex_dL {i : Nat} {p : Addr} {n : Int} (h1 : σ[i]? = some (some (.ref p))) (h0 : 0 < n) (h2 : n < 1073741824) : EvX (drd K p) K (tCall (sp__law_draw K) [] E0 (tCons (tVar i) (tCons (tC (.int n)) tNil))) σ W (fun r : Int => 0 ≤ r ∧ r < n) := fun W1 g1 Q k => ev_drawL h1 ev_int h0 h2 W1 g1 Q fun v W2 g2 ⟨r, h, e⟩ => k v W2 g2 ⟨r, h, e⟩
end
section
variable {K : Fg} {vs : List V} {H : Hp} {Q : VK} {E : XK} {C : Addr}
theorem rd__law_drawn (c : LadderC K C) (h : sp__law_drawn K C vs H Q E) : t__law_drawn K C { nx := fun _ H' => Q .non H', rt := Q } (start n__law_drawn vs) H := by
  obtain ⟨W, p, w, gr, rfl, rfl, s0, h1, h8, k⟩ := h
  have eI : ∀ {i : Int} {W : Wd}, rep K W.B (V.int i) i := rfl
  have eB : ∀ {i : Bool} {W : Wd}, rep K W.B (V.bl i) i := rfl
  let T : Option V → Option V → Option V → Option V → Option V → Option V → SS := fun v3 v4 v5 v6 v7 v8 => [some (.ref p), some (.int w), some (.bl gr), v3, v4, v5, v6, v7, v8]
  show tSeq _ _ _ (T none none none none none none) W.H
  refine q_parR3L ?_
  refine en_lst (K := K) (ε := pur) (α := Raw) (W := W) (σ := T none none none none none none) ea_nil (by decide) W (.start trivial) _ fun ma us1 W1 g1' fm bm hm rm => ?_
  refine en_lst (K := K) (ε := pur) (α := Raw) (W := W1) (σ := T none none none none none none) ea_nil (by decide) W1 (.start trivial) _ fun la us2 W2 g2' fl bl hl2 rl => ?_
  refine ev_lst (K := K) (ε := pur) (xs := ([] : List Int)) (W := W2) (σ := T none none none none none none) ea_nil (by decide) W2 (.start trivial) _ fun v5 W3 g3' r5 => ⟨_, _, _, rfl, ?_⟩
  have g1 := g1'.pure
  have g2 := g2'.pure
  have g3 := g3'.pure
  have lm : LMut K W1 ma ([] : List Raw) := ⟨bm, us1, hm, rm⟩
  have ll : LMut K W2 la ([] : List Raw) := ⟨bl, us2, hl2, rl⟩
  have flW : W.H la = none := was_noneL g1 fl
  have s3 : Sd K W3 p := s0.g (g1.trans (g2.trans g3))
  let f0 : Things := thput (fun _ _ => none) 0 0 (sdT K p)
  have A1 : All W f0 := (All.none_ W).add s0 (fun _ _ _ e => by cases e) rfl
  have A2 : All W1 (thput f0 0 1 (lstT K ma (raws []))) := A1.new g1 (q := lstT K ma (raws [])) lm (fun a ha => by rw [List.mem_singleton.mp ha]; exact fm) (by simp [f0, thput])
  have A3 : All W2 (thput (thput f0 0 1 (lstT K ma (raws []))) 0 2 (lstT K la (vals []))) := A2.new g2 (q := lstT K la (vals [])) ll (fun a ha => by rw [List.mem_singleton.mp ha]; exact fl) (by simp [f0, thput])
  let f3 : Things := thput (thput f0 0 1 (lstT K ma (raws []))) 0 2 (lstT K la (vals []))
  have A4 : All W3 f3 := A3.gr g3
  show tSeq _ _ _ (T (some (.ref ma)) (some (.ref la)) (some v5) none none none) W3.H
  refine ⟨_, rfl, W3, p, 2, rfl, rfl, s3, by decide, by decide, fun rr W4 hr0 hr1 m4 s4 => ⟨2, rr, rfl, rfl, 2 + rr, rfl, by omega, by omega, for_rng (W2 := W4) (fun i σ W' => ∃ (f : Things) (xs : List Addr) (us : List V) (Ss : List (List Int × Stp1)) (nv : V) (ns : List Int) (v6 v7 v8 : Option V), σ = T (some (.ref ma)) (some (.ref la)) (some nv) v6 v7 v8 ∧ On W4 W' ∧ Md [p] W W' ∧ All W' f ∧ f 0 0 = some (sdT K p) ∧ f 0 1 = some (lstT K ma (raws xs)) ∧ f 0 2 = some (lstT K la (vals us)) ∧ (∀ g k, g ≠ 1 → (g ≠ 0 ∨ 3 ≤ k) → f g k = none) ∧ (∀ k, i ≤ k → f 1 k = none) ∧
      rep K W'.B nv ns ∧ (∀ n ∈ ns, NumR n) ∧ ns.length ≤ 270 ∧ xs.length = i ∧ us.length = i ∧ Ss.length = i ∧ ∀ (k : Nat) x v S, xs[k]? = some x → us[k]? = some v → Ss[k]? = some S → Made K C w (if gr ∧ k < 2 then 270 else 50) W' f k x v S)
    ⟨f3, [], [], [], v5, [], none, none, none, rfl, .refl _, (Grow.s (g1.trans (g2.trans g3))).trans m4, A4.keep (g := 0) (k := 0) (q := sdT K p) (by simp [f3, f0, thput]) m4 (fun a ha => ha) s4, by simp [f3, f0, thput], by simp [f3, f0, thput], by simp [f3, f0, thput], fun g k hg hk => by simp only [f3, f0, thput]; rw [if_neg (by omega), if_neg (by omega), if_neg (by omega)], fun k _ => by simp [f3, f0, thput], rep_on m4.on r5, fun n h => (by cases h), by decide, rfl, rfl, rfl, fun k x v S h => by simp at h⟩
    (fun i σ' W' ⟨_, _, _, _, _, _, _, _, _, _, o, _⟩ => o) ?_ ?_⟩⟩
  · rintro i σ' W5 hi ⟨f, xs, us, Ss, nv, ns, v6, v7, v8, rfl, o5, M5, A5, e00, e01, e02, eno, e1k, rn, hn, hl, lx, lu, lS, md⟩
    have s5 : Sd K W5 p := A5.get e00
    let T5 : Option V → Option V → Option V → SS := fun v5 v7 v8 => T (some (.ref ma)) (some (.ref la)) v5 (some (.int (i : Int))) v7 v8
    let bd : Int := if gr ∧ i < 2 then 270 else 50
    have bd2 : bd = 270 ∨ bd = 50 := by
      by_cases c : (gr = true ∧ i < 2)
      · exact .inl (if_pos c)
      · exact .inr (if_neg c)
    have nE : EvX (drd K p) K (tIf (tAnd (tB (tVar 2)) (tTest (tOp oLt (tVar 6) (tC (.int 2))))) (tOp oSub (tC (.int 270)) (tCall (sp__law_draw K) [] E0 (tCons (tVar 0) (tCons (tC (.int 9)) tNil)))) (tCall (sp__law_draw K) [] E0 (tCons (tVar 0) (tCons (tC (.int 51)) tNil)))) (T5 (some nv) v7 v8) W5 (fun n : Int => 0 ≤ n ∧ n ≤ bd) := by
      refine ex_if (b := gr && decide ((i : Int) < 2)) (et_and (et_B (ev_var (x := gr) (i := 2) rfl eB)) fun _ => et_test (ev_op (K := K) (ev_var (x := (i : Int)) (i := 6) rfl eI) ev_int ro_B0)) (fun hb => ?_) (fun hb => ?_)
      · rw [Bool.and_eq_true] at hb
        have h2 := of_decide_eq_true hb.2
        have eb : bd = 270 := by show (if gr ∧ i < 2 then 270 else 50 : Int) = 270; rw [if_pos ⟨hb.1, by omega⟩]
        refine ex_op (P := fun x : Int => x = 270) (ex_of ev_int rfl) (ex_dL (K := K) (p := p) (i := 0) (n := 9) rfl (by decide) (by decide)) fun a b ha hb => ⟨a - b, by rw [eb, ha]; omega, ro_I0⟩
      · exact EvX.imp (ex_dL (K := K) (p := p) (i := 0) (n := 51) rfl (by decide) (by decide)) fun r hr => by omega
    show tSeq _ _ _ (T5 (some nv) v7 v8) W5.H
    refine q_asgL ?_
    refine ⟨_, rfl, ?_⟩
    refine nE W5 (.start s5) _ fun vn W6 g6 ⟨n, hnb, en⟩ => ?_
    obtain ⟨m, rfl⟩ : ∃ m : Nat, n = (m : Int) := ⟨n.toNat, by omega⟩
    rw [show vn = V.int m from en]
    refine ⟨W6, p, m, rfl, rfl, g6.i, by omega, fun nv ns W7 m7 s7 r7 len7 nm7 => ?_⟩
    have T7 : Stp (drd K p) W5 W7 := g6.trans ⟨m7, s7⟩
    show tSeq _ _ _ (T5 (some nv) v7 v8) W7.H
    refine seqGL (fun σ' H' => ∃ (W8 : Wd) (nv : V) (ns : List Int), W8.H = H' ∧ σ' = T5 (some nv) v7 v8 ∧ Stp (drd K p) W5 W8 ∧ rep K W8.B nv ns ∧ (∀ n ∈ ns, NumR n) ∧ (ns.length : Int) ≤ bd) (fun Z hZ => ?_) ?_
    · refine s_whenQ (ε := drd K p) (W := W7) (σ := T5 (some nv) v7 v8) (etq_and (a := decide ((i : Int) = 0)) (et_test (ev_op (K := K) (ev_var (x := (i : Int)) (i := 6) rfl eI) ev_int ro_eqI)) (etq (EvP.imp (ex_op (K := K) (r := rEq) (P := fun _ : Int => True) (R := fun _ : Int => True) (S := fun _ : Bool => True) (EvX.imp (ex_dL (K := K) (p := p) (i := 0) (n := 4) rfl (by decide) (by decide)) fun _ _ => trivial) (ex_of ev_int trivial) fun a b _ _ => ⟨decide (a = b), trivial, ro_eqI⟩) fun v W ⟨b, _, e⟩ => ⟨b, e⟩))) T7.i (fun W8 g8 => ?_) (fun W8 g8 => ?_)
      · exact s_asg (ε := drd K p) (K := K) (W := W8) (σ := T5 (some nv) v7 v8) (x := ([] : List Int)) (ev_lst ea_nil (by decide)) g8.i fun v9 W9 g9 r9 => hZ _ _ ⟨W9, v9, [], rfl, rfl, (T7.trans g8).trans g9, r9, fun n h => (by cases h), by rcases bd2 with h | h <;> rw [h] <;> decide⟩
      · exact hZ _ _ ⟨W8, nv, ns, rfl, rfl, T7.trans g8, rep_s g8 r7, nm7, by rw [len7]; omega⟩
    · rintro _ _ ⟨W8, nv, ns, rfl, rfl, T8, r8, hn8, hb8⟩
      have A8 := A5.drd e00 T8
      have M8 : Md [p] W W8 := M5.trans T8.md
      obtain ⟨lo, fb⟩ := feedL_lok h1 h8 hn8
      have lm8 : LMut K W8 ma (raws xs) := A8.get e01
      show tSeq _ _ _ (T5 (some nv) v7 v8) W8.H
      show tDrop _ _ (T5 (some nv) v7 v8) W8.H
      obtain ⟨ws, ew, rw8⟩ := lm8.ex
      have l270 : ns.length ≤ 270 := by rcases bd2 with h | h <;> omega
      refine ⟨_, rfl, .inl ⟨rfl, ws, SqL.of ew⟩, ⟨_, rfl, _, rfl, .inl ⟨W8, w, nv, .l (ns.map PyData.int), rfl, rfl, rep_dts r8, h1, h8, ?_, by show (ns.map PyData.int).length ≤ 1000; rw [List.length_map]; omega, fun y fa s S W9 g9 r9 so9 eS fy ff fs => ?_⟩⟩⟩
      · show ((true || false) && (ns.map PyData.int).all numD) = true
        rw [numD_all hn8]
        rfl
      have eS : S = feedL w ns := by rw [eS]; show feedL w (nums (ns.map PyData.int)) = _; rw [nums_map]
      subst eS
      have lm9 := lm8.gr g9
      obtain ⟨ws9, ew9, rw9⟩ := lm9.ex
      have A9 : All W9 (thput f 1 i (ladT K C y fa s w (feedL w ns))) := A8.new (q := ladT K C y fa s w (feedL w ns)) g9 r9 (fun a ha => by
        simp only [ladT, List.mem_cons, List.not_mem_nil, or_false] at ha
        rcases ha with rfl | rfl | rfl <;> assumption) (e1k i (Nat.le_refl _))
      have lr : (raws xs).length ≤ 3 := by rw [List.length_map]; omega
      let W10 : Wd := W9.put ma (.lst (ws9 ++ [.ref y])) lm9.b
      have m10 : Md [ma] W9 W10 := md_put lm9.b
      have lm10 : LMut K W10 ma (raws (xs ++ [y])) := ⟨lm9.b, _, upd_same, by rw [show raws (xs ++ [y]) = raws xs ++ [Raw.mk (.ref y)] from List.map_append]; exact Reps.snoc rw9 rfl⟩
      have A10 : All W10 (thput (thput f 1 i (ladT K C y fa s w (feedL w ns))) 0 1 (lstT K ma (raws (xs ++ [y])))) := A9.lst (by rw [thput_ne (.inl (by decide))]; exact e01) m10 lm10
      have M10 : Md [p] W W10 := Md.freshL3 (M8.trans (Grow.s g9)) m10 fun a ha => .inr (by rw [List.mem_singleton.mp ha]; exact fm)
      refine ⟨ma, ws9, .ref y, rfl, rfl, ew9, by rw [Reps.len rw9]; exact Evl.sz_lt (by omega), ?_⟩
      dsimp only
      show tSeq _ _ _ (T5 (some nv) v7 v8) W10.H
      have r10 := rep_on m10.on (rep_g g9 r8)
      refine q_asgL (lst2L ?_)
      refine em_new (κ := Int) (α := Tup Int) (K := K) (ε := pur) (W := W10) (σ := T5 (some nv) v7 v8) W10 (.start trivial) _ fun pd W11 g11' fd md11 => ?_
      have g11 := g11'.pure
      refine ev_lst (K := K) (ε := pur) (xs := ([] : List Int)) (W := W11) (σ := T5 (some nv) v7 v8) ea_nil (by decide) W11 (.start trivial) _ fun ul W12 g12' rl12 => ⟨Evl.sz_of (by show 2 ≤ 100000; decide), fun b hb13 => ?_⟩
      have g12 := g12'.pure
      obtain ⟨W13, e13, o13, M13, L13⟩ := mk_leftE (md11.gr g12) rl12 b hb13
      rw [← e13]
      have G13 : Grow W10 W13 := M13 W10 [] (g11.trans g12) fd
      have r13 := rep_g G13 r10
      show tSeq _ _ _ (T5 (some nv) (some (.ref b)) v8) W13.H
      refine q_for (ε := pur) (K := K) (W := W13) (σ := T5 (some nv) (some (.ref b)) v8) (xs := ns) (ei_list (ev_var (i := 5) rfl r13)) trivial fun W14 g14' => ?_
      have g14 := g14'.pure
      have L14 : LeftAt K W14 (.ref b) (lv ((ns.take 0).foldl (feedF w) ([], []))) := by
        show LeftAt K W14 (.ref b) (sortI [], [])
        rw [show sortI [] = [] from (sortI_perm []).eq_nil]
        exact L13.gr g14
      refine ⟨fun j σ' W' => ∃ (v7 : V) (v8 : Option V), σ' = T5 (some nv) (some v7) v8 ∧ Grow W14 W' ∧ LeftAt K W' v7 (lv ((ns.take j).foldl (feedF w) ([], []))),
        ⟨.ref b, v8, rfl, Md.refl [] W14, L14⟩, (fun j σ' W' h => by obtain ⟨_, _, _, g, _⟩ := h; exact Md.on g), ?_, ?_⟩
      · rintro j x vx σ' W15' W15 hj hx ⟨v7, v8, rfl, G15', L15'⟩ g15 rx
        rw [show vx = V.int x from rx]
        have tk : ns.take (j + 1) = ns.take j ++ [x] := by rw [List.take_add_one, hx]; rfl
        obtain ⟨lt, ft⟩ := feedL_lok h1 h8 (ns := ns.take j) fun z hz => hn8 z (List.mem_of_mem_take hz)
        have lt : Lok w ((ns.take j).foldl (feedF w) ([], [])) := lt
        have tl : (ns.take j).length ≤ ns.length := by rw [List.length_take]; omega
        have ft : fedS w ((ns.take j).foldl (feedF w) ([], [])) = ((ns.take j).length : Int) := ft
        have lks := lok_lks lt (by omega)
        refine ⟨_, rfl, _, rfl, _, rfl, W15, v7, w, _, x, rfl, rfl, L15'.gr g15, ⟨lks.w1, lks.w8, by show (sortI _).length < w; rw [(sortI_perm _).length_eq]; exact lks.fl, lks.k, lks.ks, lks.ln⟩, fun z W16 g16 L16 => ?_⟩
        rw [with_lv lt.fl] at L16
        refine ⟨W16, rfl, z, _, rfl, G15'.trans (g15.trans g16), ?_⟩
        rw [tk, List.foldl_append]
        exact L16
      · rintro σ' W15 ⟨v7, v8, rfl, G15, L15⟩
        rw [List.take_length] at L15
        have GG := G13.trans (g14.trans G15)
        have A15 := A10.gr GG
        have e02' : thput (thput f 1 i (ladT K C y fa s w (feedL w ns))) 0 1 (lstT K ma (raws (xs ++ [y]))) 0 2 = some (lstT K la (vals us)) := by rw [thput_ne (.inr (by decide)), thput_ne (.inl (by decide))]; exact e02
        refine s_append (K := K) (σ := T5 (some nv) (some v7) v8) (i := 4) (y := Raw.mk v7) rfl (A15.get e02') (ev_var (x := Raw.mk v7) (i := 7) rfl rfl) (by rw [List.length_map]; omega) fun W16 m16 o16 l16 => ?_
        have l16 : LMut K W16 la (vals (us ++ [v7])) := by rw [show vals (us ++ [v7]) = vals us ++ [Raw.mk v7] from List.map_append]; exact l16
        have A16 := A15.lst e02' m16 l16
        have M16 : Md [p] W W16 := Md.freshL3 (M10.trans (Grow.s GG)) m16 fun a ha => .inr (by rw [List.mem_singleton.mp ha]; exact flW)
        have oA : On W5 W16 := ((T8.on.trans (g9.on.trans m10.on)).trans GG.on).trans o16
        have eg : ∀ g k, ¬ (g = 1 ∧ k = i) → ¬ (g = 0 ∧ k = 1) → ¬ (g = 0 ∧ k = 2) → thput (thput (thput f 1 i (ladT K C y fa s w (feedL w ns))) 0 1 (lstT K ma (raws (xs ++ [y])))) 0 2 (lstT K la (vals (us ++ [v7]))) g k = f g k := fun g k h1 h2 h3 => by
          simp only [thput, if_neg h1, if_neg h2, if_neg h3]
        refine ⟨W16, rfl, _, xs ++ [y], us ++ [v7], Ss ++ [feedL w ns], nv, ns, _, _, _, rfl, o5.trans oA, M16, A16, (eg 0 0 (by omega) (by omega) (by omega)).trans e00, by rw [thput_ne (.inr (by decide)), thput_same], thput_same, fun g k hg hk => by rw [eg g k (by omega) (by omega) (by omega)]; exact eno g k hg hk, fun k hk => by rw [eg 1 k (by omega) (by omega) (by omega)]; exact e1k k (by omega), rep_on (GG.on.trans o16) r10, hn8, l270, by rw [List.length_append, lx]; rfl, by rw [List.length_append, lu]; rfl, by rw [List.length_append, lS]; rfl, fun k x v S hx hv hS => ?_⟩
        by_cases ck : k = i
        · subst ck
          rw [List.getElem?_append_right (by omega), lx] at hx
          rw [List.getElem?_append_right (by omega), lu] at hv
          rw [List.getElem?_append_right (by omega), lS] at hS
          simp at hx hv hS
          subst hx; subst hv; subst hS
          refine ⟨⟨fa, s, by rw [thput_ne (.inl (by decide)), thput_ne (.inl (by decide)), thput_same]⟩, L15.on o16, lo, by rw [fb]; exact hb8⟩
        · have lk : k < i := by
            have := (List.getElem?_eq_some_iff.mp hx).1
            rw [List.length_append, lx] at this
            simp at this
            omega
          rw [List.getElem?_append_left (by omega)] at hx hv hS
          exact (md k x v S hx hv hS).on oA (eg 1 k (by omega) (by omega) (by omega))
  · rintro σ' W5 ⟨f, xs, us, Ss, nv, ns, v6, v7, v8, rfl, o5, M5, A5, e00, e01, e02, eno, e1k, rn, hn, hl, lx, lu, lS, md⟩
    have lm5 : LMut K W5 ma (raws xs) := A5.get e01
    have ll5 : LMut K W5 la (vals us) := A5.get e02
    have nml : ma ≠ la := fun z => by
      have := A5.off e01 e02 (.inr (by decide)) (a := ma) (List.mem_singleton.mpr rfl)
      exact this (List.mem_singleton.mpr z)
    have xl : xs.length = rr.toNat + 2 := by omega
    obtain ⟨o6, h6, r6, ex6, mono6⟩ := lm5.fix
    let W6 : Wd := W5.fix ma o6 h6
    have M6 : Md [p] W W6 := mono6 W [p] M5 fm
    have on6 : On W5 W6 := ⟨ex6, fun _ _ _ z => z⟩
    have ll6 : LMut K W6 la (vals us) := ll5.fx h6 lm5.b nml
    obtain ⟨o7, h7, r7, ex7, mono7⟩ := ll6.fix
    let W7 : Wd := W6.fix la o7 h7
    have M7 : Md [p] W W7 := mono7 W [p] M6 flW
    have on7 : On W6 W7 := ⟨ex7, fun _ _ _ z => z⟩
    let f5 : Things := fun g k => if g = 0 ∧ (k = 1 ∨ k = 2) then none else f g k
    have f5s : ∀ g k q, f5 g k = some q → f g k = some q ∧ ¬ (g = 0 ∧ (k = 1 ∨ k = 2)) := fun g k q e => by
      by_cases c : g = 0 ∧ (k = 1 ∨ k = 2)
      · rw [show f5 g k = none from if_pos c] at e; cases e
      · rw [show f5 g k = f g k from if_neg c] at e; exact ⟨e, c⟩
    have B5 : All W5 f5 := A5.sub fun g k q e => (f5s g k q e).1
    have B6 : All W6 f5 := B5.fixd h6 lm5.b fun g k q e hm => by
      obtain ⟨e', nc⟩ := f5s g k q e
      exact A5.off e01 e' (by omega) (List.mem_singleton.mpr rfl) hm
    have B7 : All W7 f5 := B6.fixd h7 ll6.b fun g k q e hm => by
      obtain ⟨e', nc⟩ := f5s g k q e
      exact A5.off e02 e' (by omega) (List.mem_singleton.mpr rfl) hm
    dsimp only
    show tRet _ _ (T (some (.ref ma)) (some (.ref la)) (some nv) v6 v7 v8) W7.H
    refine retH ⟨_, rfl, _, rfl, _, rfl, Evl.sz_of (by show 3 ≤ 100000; decide), fun a ha => ?_⟩
    let W8 : Wd := W7.add a (.lst [.ref ma, .ref la, nv])
    have g8 : Grow W7 W8 := W7.grow_add ha
    have on8 : On W5 W8 := (on6.trans on7).trans g8.on
    exact k a ma la nv xs us Ss ns f5 W8 (M7.trans (Grow.s g8)) (B7.gr g8) ((if_neg (by omega)).trans e00) (fun g k hg hk => by
      by_cases c : g = 0 ∧ (k = 1 ∨ k = 2)
      · exact if_pos c
      · exact (if_neg c).trans (eno g k hg (by omega))) (fun k hk => (if_neg (by omega)).trans (e1k k (by omega))) upd_same (rep_on (on7.trans g8.on) r6) (rep_on g8.on r7) (rep_on on8 rn) hn hl (by omega) (by omega) (by omega) (by omega) fun k x v S hx hv hS => (md k x v S hx hv hS).on on8 (if_neg (by omega))
end
end B
set_option maxHeartbeats 16000000
/-! k51: the law -/
namespace B
open PySem L2
open PySem.W (Tup T3 T4 Datum DatumOrd)
open Evl (Ex)
def sp_law (K : Fg) : Sp := fun vs H Q _ => ∃ (a : Addr) (ns : List Int), vs = [.ref a] ∧ SqL K H a (ns.map V.int) ∧ ns.length ≤ 63 ∧ ∀ H', Q (.bl true) H'
theorem len_law {K : Fg} {vs : List V} {H : Hp} {Q : VK} {E : XK} (h : sp_law K vs H Q E) : vs.length = ["_law_script"].length := by
  obtain ⟨a, ns, rfl, _⟩ := h
  rfl
theorem law_in {K : Fg} {H : Hp} (a : Addr) (ns : List Int) (hl : ns.length ≤ 63) (hS : SqL K H a (ns.map V.int)) : sp_law K [.ref a] H (fun v _ => v = .bl true) (fun _ _ _ => False) := ⟨a, ns, rfl, hS, hl, fun _ => rfl⟩
/-- law: the slots 0 _law_script, 1 _law_state, 2 _law_wide, 3 _law_great, 4 _law_made, 5 _law_lefts, 6 _law_numbers_here, 7 _law_whole, 8 _law_due, 9 _law_twins, 10 _law_one, 11 _law_another, 12 _law_left, 13 _law_fed, 14 _law_height, 15 _law_extra, 16 _law_strange, 17 _law_odd -/
abbrev n_law : List Str := ["_law_script", "_law_state", "_law_wide", "_law_great", "_law_made", "_law_lefts", "_law_numbers_here", "_law_whole", "_law_due", "_law_twins", "_law_one", "_law_another", "_law_left", "_law_fed", "_law_height", "_law_extra", "_law_strange", "_law_odd"]
def t_law (K : Fg) (c_Ladder : Addr) : TS := (tSeq (tAsg (tCall (sp__law_begun K) [] E0 (tCons (tVar 0) tNil)) (gName 1))
  (tSeq (tAsg (tTup (tCons (tOp oAdd (tC (.int 1)) (tCall (sp__law_draw K) [] E0 (tCons (tVar 1) (tCons (tC (.int 8)) tNil)))) (tCons (tOp rEq (tCall (sp__law_draw K) [] E0 (tCons (tVar 1) (tCons (tC (.int 16)) tNil))) (tC (.int 0))) tNil))) (gPair K 2 3))
  (tSeq (tAsg (tCall (sp__law_drawn K c_Ladder) [] E0 (tCons (tVar 1) (tCons (tVar 2) (tCons (tVar 3) tNil)))) (gUnl K 3 (gCons (gName 4) (gCons (gName 5) (gCons (gName 6) gNil)))))
  (tSeq (tPar3 7 8 9 (tCons (tOp (rIxL K) (tVar 4) (tC (.int 0))) (tCons (tOp (rIxL K) (tVar 5) (tC (.int 0))) (tCons (tLc (iList K (tVar 4)) (gName 10) tYes (tMeth c_Ladder "twin" (sp_Ladder_twin K c_Ladder) [] E0 (tVar 10) tNil) [10]) tNil))))
  (tSeq (tFor (iZip K (tCons (tSl (rSlL K) (tVar 4) (tPart (tC (.int 1))) tNoPart) (tCons (tSl (rSlL K) (tVar 5) (tPart (tC (.int 1))) tNoPart) tNil))) (gPair K 11 12)
  (tSeq (tAsg (tOp oAdd (tMeth c_Ladder "fed" (sp_Ladder_fed K c_Ladder) [] E0 (tVar 7) tNil) (tMeth c_Ladder "fed" (sp_Ladder_fed K c_Ladder) [] E0 (tVar 11) tNil)) (gName 13))
  (tSeq (tIfS (tOr (tTest (tOp oNotN (tMethKw c_Ladder "pour" (sp_Ladder_pour K c_Ladder) [0] 1 E0 (tVar 7) (tCons (tVar 11) tNil)) (tC .non))) (tTest (tOp rNe (tMeth c_Ladder "fed" (sp_Ladder_fed K c_Ladder) [] E0 (tVar 7) tNil) (tVar 13)))) (tRet (tC (.bl false))) tNext)
  (tSeq (tAsg (tCall (sp__law_poured K) [] E0 (tCons (tVar 8) (tCons (tVar 12) (tCons (tVar 2) tNil)))) (gName 8))
  (tSeq (tIfS (tNot (tB (tCall (sp__law_alike K c_Ladder) [] E0 (tCons (tVar 7) (tCons (tVar 8) tNil))))) (tRet (tC (.bl false))) tNext)
  (tIfS (tTest (tOp (rEqT K true) (tCB rSortedDI (tCons (tOp (rIxL K) (tVar 8) (tC (.int 0))) tNil)) (tLc (iRng1 (tCons (tC (.int 12)) tNil)) (gName 14) (tTest (tOp rEq (tOp oAnd (tOp oShr (tOp oDiv (tVar 13) (tVar 2)) (tVar 14)) (tC (.int 1))) (tC (.int 1)))) (tVar 14) [14]))) (tRet (tC (.bl false))) tNext))))))
  (tSeq (tIfS (tNot (tB (tVar 3))) (tSeq (tAsg (tCall (sp__law_poured K) [] E0 (tCons (tVar 8) (tCons (tVar 8) (tCons (tVar 2) tNil)))) (gName 8))
  (tDrop (tMeth c_Ladder "pour" (sp_Ladder_pour K c_Ladder) [] E0 (tVar 7) (tCons (tVar 7) tNil)))) tNext)
  (tSeq (tAsg (tCall (sp__law_draw K) [] E0 (tCons (tVar 1) (tCons (tC (.int 1000001)) tNil))) (gName 15))
  (tSeq (tDrop (tMeth c_Ladder "feed" (sp_Ladder_feed K c_Ladder) [] E0 (tVar 7) (tCons (tVar 15) tNil)))
  (tSeq (tAsg (tCall (sp__law_with K) [] E0 (tCons (tVar 8) (tCons (tVar 2) (tCons (tVar 15) tNil)))) (gName 8))
  (tSeq (tIfS (tOr (tNot (tB (tCall (sp__law_alike K c_Ladder) [] E0 (tCons (tVar 7) (tCons (tVar 8) tNil))))) (tTest (tOp oNotIsB (tCall (sp_is_fed K c_Ladder) [] E0 (tCons (tVar 7) (tCons (tCall (sp__law_plain K c_Ladder) [] E0 (tCons (tVar 7) tNil)) tNil))) (tC (.bl true))))) (tRet (tC (.bl false))) tNext)
  (tSeq (tIfS (tNot (tB (tCall (sp__law_apart K c_Ladder) [] E0 (tCons (tVar 4) (tCons (tVar 9) (tCons (tVar 2) (tCons (tVar 15) tNil))))))) (tRet (tC (.bl false))) tNext)
  (tSeq (tAsg (tCall (sp_ladder_of K c_Ladder) [] E0 (tCons (tOp oAdd (tOp oMod (tVar 2) (tC (.int 8))) (tC (.int 1))) (tCons (tSl (rSlL K) (tVar 6) tNoPart (tPart (tC (.int 20)))) tNil))) (gName 16))
  (tSeq (tAsg (tOp (rIxL K) (tLst (tCons (tC .non) (tCons (tMake c_Ladder (sp_Ladder___init__ K c_Ladder) [] E0 (tCons (tOp oAdd (tOp oMod (tVar 2) (tC (.int 8))) (tC (.int 1))) tNil)) (tCons (tVar 16) (tCons (tVar 6) (tCons (tC (.int 5)) (tCons tDNewK (tCons (tMeth c_Ladder "rungs" (sp_Ladder_rungs K c_Ladder) [] E0 (tVar 7) tNil) tNil)))))))) (tCall (sp__law_draw K) [] E0 (tCons (tVar 1) (tCons (tC (.int 7)) tNil)))) (gName 17))
  (tRet (tAndV (tCall (sp__law_refused K c_Ladder) [] E0 (tCons (tVar 7) (tCons (tVar 17) tNil))) (tCall (sp__law_alike K c_Ladder) [] E0 (tCons (tVar 7) (tCons (tVar 8) tNil))))))))))))))))))
section
variable {α β : Type} [Py α] [Py β] {K : Fg} {W : Wd} {σ : SS} {ε : Ef} {ta tb te : TE} {P : α → Prop} {R : β → Prop}
theorem ex_p2 (ha : EvX ε K ta σ W P) (hb : EvX ε K tb σ W R) : EvX ε K (tTup (tCons ta (tCons tb tNil))) σ W (fun t : α × β => P t.1 ∧ R t.2) := fun W1 g1 Q k => ha W1 g1 _ fun a W2 g2 ⟨x, px, ra⟩ => hb W2 (g1.trans g2) _ fun b W3 g3 ⟨y, py, rb⟩ => ⟨Evl.sz_of (by show 2 ≤ 100000; decide), fun p hp => k _ (W3.add p (.tup [a, b])) ((g2.trans g3).and (W3.grow_add hp)) ⟨(x, y), ⟨px, py⟩, p, a, b, rfl, upd_same, rep_g (W3.grow_add hp) (rep_s g3 ra), rep_g (W3.grow_add hp) rb⟩⟩
theorem q_asgGXL {D : Ends} {g : TG} {tz : TS} (h : EvX ε K te σ W P) (s : ε.I W) (k : ∀ x v W', P x → Stp ε W W' → rep K W'.B v x → g v σ W'.H fun σ2 H2 => tz D σ2 H2) : tSeq (tAsg te g) tz D σ W.H := h W (.start s) _ fun v W' g ⟨x, px, r⟩ => k x v W' px g r
end
/-- whether the row that a ladder shows leaves it -/
theorem reps_dts {K : Fg} {B : Hp} : ∀ {vs : List V} {ns : List Int}, Reps K B vs ns → Reps K B vs (ns.map PyData.int)
  | _, _, .nil => .nil
  | _, _, .cons h t => .cons (rep_dt (α := Int) h) (reps_dts t)
theorem rep_dtt {K : Fg} {B : Hp} {v : V} {ns : List Int} (h : rep K B v (Tup.mk ns)) : rep K B v (Tup.mk (ns.map PyData.int)) := by
  obtain ⟨a, vs, e, s, r⟩ := h
  exact ⟨a, vs, e, s, reps_dts r⟩
theorem lst7H {t1 t2 t3 t4 t5 t6 t7 : TE} {σ : SS} {H : Hp} {Q : VK} (h : t1 σ H fun v1 H1 => t2 σ H1 fun v2 H2 => t3 σ H2 fun v3 H3 => t4 σ H3 fun v4 H4 => t5 σ H4 fun v5 H5 => t6 σ H5 fun v6 H6 => t7 σ H6 fun v7 H7 => [v1, v2, v3, v4, v5, v6, v7].length ≤ sizeLine ∧ ∀ p, H7 p = none → Q (.ref p) (upd H7 p (.lst [v1, v2, v3, v4, v5, v6, v7]))) : tLst (tCons t1 (tCons t2 (tCons t3 (tCons t4 (tCons t5 (tCons t6 (tCons t7 tNil))))))) σ H Q := h
/-- what is no ladder -/
structure NotLd (K : Fg) (C : Addr) : Prop where
  n : PySem.W.kitOne K (.type "NoneType") (.ref C) = some false
  i : PySem.W.kitOne K (.type "int") (.ref C) = some false
  l : PySem.W.kitOne K (.type "list") (.ref C) = some false
  d : PySem.W.kitOne K (.type "dict") (.ref C) = some false
theorem fed_plain {w : Nat} {S : List Int × Stp1} (lo : Lok w S) (hb : fedS w S ≤ 900) : fedB w (plainL S) (.t ((plainL (lv S)).map PyData.int)) = true := by
  have lo' : Lok w (lv S) := ⟨lo.w1, lo.w8, by show (sortI S.1).length < w; rw [(sortI_perm _).length_eq]; exact lo.fl, fun x hx => lo.fn x ((sortI_perm _).mem_iff.mp hx), lo.k, lo.rg⟩
  have p1 := plain_len lo
  have p2 := plain_len lo'
  have fe : fedS w (lv S) = fedS w S := by
    show ((sortI S.1).length : Int) + Wt w S.2 = (S.1.length : Int) + Wt w S.2
    rw [(sortI_perm _).length_eq]
  have e := eqS_leftP (plain_ok lo') (plain_ok lo) (Nat.lt_of_le_of_lt (Nat.div_le_self _ _) (by omega)) (Nat.lt_of_le_of_lt (Nat.div_le_self _ _) (by omega))
  have e2 : eqS w (lv S) w S = true := by
    unfold eqS
    rw [deq_self (a := (lv S).2) (b := S.2) lo.k.nd lo.k.nd fun _ => rfl]
    show (decide ((w : Int) = (w : Int)) && (decide (sortI (sortI S.1) = sortI S.1) && true)) = true
    rw [sort_self (sortI_pw S.1)]
    simp
  unfold fedB
  show (true && ((((plainL (lv S)).map PyData.int).all numD) && (deq (canonL w (nums ((plainL (lv S)).map PyData.int))) (canonL w (plainL S)) && decide (looseL w (nums ((plainL (lv S)).map PyData.int)) = looseL w (plainL S))))) = true
  rw [numD_all (plain_num lo'), nums_map, ← e, e2]
  rfl
theorem bit_one (i : Int) : PySem.Builtin.bitAnd i 1 = i % 2 := by
  have := PySem.W.kbt_mask i 1
  simpa using this
theorem rng_cast (n : Nat) : rng 0 n = (List.range n).map fun k : Nat => (k : Int) := by
  unfold rng
  exact List.map_congr_left fun k _ => by omega
theorem bits_same {w F h : Nat} : decide (PySem.Builtin.bitAnd (((F : Int) / (w : Int)) / 2 ^ ((h : Int)).toNat) 1 = 1) = decide (bit (F / w) h) := by
  rw [bit_one, Int.toNat_natCast]
  refine decide_eq_decide.mpr ?_
  unfold bit
  have e : ((F : Int) / (w : Int)) / 2 ^ h % 2 = ((F / w / 2 ^ h % 2 : Nat) : Int) := by push_cast; rfl
  rw [e]
  omega
section
variable {K : Fg} {vs : List V} {H : Hp} {Q : VK} {E : XK} {C : Addr}
theorem rd_law (c : LadderC K C) (nl : NotLd K C) (h : sp_law K vs H Q E) : t_law K C { nx := fun _ H' => Q .non H', rt := Q } (start n_law vs) H := by
  obtain ⟨a0, ns, rfl, hS, hl, k⟩ := h
  let W : Wd := ⟨H, H, Ext.refl H⟩
  have eI : ∀ {i : Int} {W : Wd}, rep K W.B (V.int i) i := rfl
  have eB : ∀ {i : Bool} {W : Wd}, rep K W.B (V.bl i) i := rfl
  show t_law K C _ [some (.ref a0), none, none, none, none, none, none, none, none, none, none, none, none, none, none, none, none, none] W.H
  refine q_asgL ?_
  refine ⟨_, rfl, W, a0, ns, rfl, rfl, hS, hl, fun p W1 g1 s1 hp0 => ?_⟩
  show tSeq _ _ _ [some (.ref a0), some (.ref p), none, none, none, none, none, none, none, none, none, none, none, none, none, none, none, none] W1.H
  refine q_asgGXL (ε := drd K p) (K := K) (W := W1) (σ := [some (.ref a0), some (.ref p), none, none, none, none, none, none, none, none, none, none, none, none, none, none, none, none]) (ex_p2 (P := fun r : Int => 1 ≤ r ∧ r ≤ 8) (R := fun _ : Bool => True) (ex_op (P := fun x : Int => x = 1) (ex_of ev_int rfl) (ex_dL (K := K) (p := p) (i := 1) (n := 8) rfl (by decide) (by decide)) fun a b ha hb => ⟨a + b, by rw [ha]; omega, ro_I0⟩)
    (ex_op (P := fun _ : Int => True) (R := fun _ : Int => True) (EvX.imp (ex_dL (K := K) (p := p) (i := 1) (n := 16) rfl (by decide) (by decide)) fun _ _ => trivial) (ex_of ev_int trivial) fun a b _ _ => ⟨decide (a = b), trivial, ro_eqI⟩)) s1 fun t v W2 ⟨hw, _⟩ g2 rt => ?_
  refine gt_p2 (j1 := 2) (j2 := 3) rt fun v2 v3 q2 q3 => ?_
  obtain ⟨w, ew⟩ : ∃ w : Nat, t.1 = (w : Int) := ⟨t.1.toNat, by omega⟩
  rw [ew] at hw
  generalize t.2 = gr at q3
  rw [show v2 = V.int w from (show v2 = V.int t.1 from q2).trans (by rw [ew]), show v3 = V.bl gr from q3]
  have w1 : 1 ≤ w := by omega
  have w8 : w ≤ 8 := by omega
  have s2 : Sd K W2 p := g2.i
  let S : Option V → Option V → Option V → Option V → Option V → Option V → Option V → Option V → Option V → Option V → Option V → Option V → Option V → Option V → SS := fun v4 v5 v6 v7 v8 v9 v10 v11 v12 v13 v14 v15 v16 v17 => [some (.ref a0), some (.ref p), some (.int w), some (.bl gr), v4, v5, v6, v7, v8, v9, v10, v11, v12, v13, v14, v15, v16, v17]
  show tSeq _ _ _ (S none none none none none none none none none none none none none none) W2.H
  refine q_asgGH ?_
  refine ⟨_, rfl, _, rfl, _, rfl, W2, p, w, gr, rfl, rfl, s2, w1, w8, fun a ma la nv xs us Ss nums f W3 M3 A3 e00 eno e1k hb rma rla rnv hnn hnl l2 l3 lu lS md => ?_⟩
  refine ⟨a, [.ref ma, .ref la, nv], rfl, SqL.of (W3.sub.el hb), rfl, .ref ma, [.ref la, nv], rfl, .ref la, [nv], rfl, nv, [], rfl, rfl, ?_⟩
  show tSeq _ _ _ (S (some (.ref ma)) (some (.ref la)) (some nv) none none none none none none none none none none none) W3.H
  refine q_parR3L ?_
  obtain ⟨x0, hx0⟩ : ∃ x, xs[0]? = some x := ⟨xs[0], List.getElem?_eq_getElem (by omega)⟩
  obtain ⟨u0, hu0⟩ : ∃ x, us[0]? = some x := ⟨us[0], List.getElem?_eq_getElem (by omega)⟩
  obtain ⟨S0, hS0⟩ : ∃ x, Ss[0]? = some x := ⟨Ss[0], List.getElem?_eq_getElem (by omega)⟩
  refine ev_op (K := K) (ε := pur) (W := W3) (σ := S (some (.ref ma)) (some (.ref la)) (some nv) none none none none none none none none none none none) (ev_var (i := 4) rfl rma) ev_int (ro_ixL (raws_at hx0)) W3 (.start trivial) _ fun v7 W4 g4 e7 => ?_
  refine ev_op (K := K) (ε := pur) (W := W4) (σ := S (some (.ref ma)) (some (.ref la)) (some nv) none none none none none none none none none none none) (ev_var (i := 5) rfl (rep_s g4 rla)) ev_int (ro_ixL (vals_at hu0)) W4 (.start trivial) _ fun v8 W5 g5 e8 => ?_
  rw [show v7 = V.ref x0 from e7, show v8 = u0 from e8]
  have G5 := (g4.trans g5).pure
  have A5 := A3.gr G5
  have rma5 := rep_g G5 rma
  have mdk : ∀ k : Nat, k < xs.length → ∃ x v S, xs[k]? = some x ∧ us[k]? = some v ∧ Ss[k]? = some S ∧ Made K C w (if gr ∧ k < 2 then 270 else 50) W3 f k x v S := fun k hk => ⟨xs[k], us[k]'(by omega), Ss[k]'(by omega), List.getElem?_eq_getElem hk, List.getElem?_eq_getElem (by omega), List.getElem?_eq_getElem (by omega), md k _ _ _ (List.getElem?_eq_getElem hk) (List.getElem?_eq_getElem (by omega)) (List.getElem?_eq_getElem (by omega))⟩
  have mdt : ∀ k x v S, xs[k]? = some x → us[k]? = some v → Ss[k]? = some S → ∃ fa s, f 1 k = some (ladT K C x fa s w S) := fun k x v S h1 h2 h3 => (md k x v S h1 h2 h3).t
  refine en_lcI (K := K) (j := 10) (σ := S (some (.ref ma)) (some (.ref la)) (some nv) none none none none none none none none none none none) (W := W5) (ei_list (ev_var (i := 4) rfl rma5)).i (fun vs f' => (∀ g k, g ≠ 2 → f' g k = f g k) ∧ (∀ k, vs.length ≤ k → f' 2 k = none) ∧ ∃ ys : List Addr, vs = ys.map V.ref ∧ ∀ (k : Nat) (y : Addr), ys[k]? = some y → ∃ S fa s, Ss[k]? = some S ∧ f' 2 k = some (ladT K C y fa s w S)) (f0 := f) A5 ⟨fun _ _ _ => rfl, fun k _ => eno 2 k (by decide) (.inl (by decide)), [], rfl, fun k x h => by simp at h⟩
    (fun y v vs f' W6 hy G rv A6 ⟨i1, i2, ys, eys, i3⟩ => ?_) (by rw [List.length_map]; omega) W5 (.refl _ _) _ fun p9 vs9 f6 W6 G6 f9 b9 h9 l9 A6 ⟨i1, i2, ys, eys, i3⟩ hap9 => ⟨_, _, _, rfl, ?_⟩
  · have lv : vs.length = ys.length := by rw [eys, List.length_map]
    rw [List.getElem?_map] at hy
    obtain ⟨x, hx, rfl⟩ := Option.map_eq_some_iff.mp hy
    have hlt : vs.length < xs.length := (List.getElem?_eq_some_iff.mp hx).1
    obtain ⟨x', v', Sk, h1, h2, h3, hm⟩ := mdk vs.length hlt
    rw [hx] at h1
    cases h1
    obtain ⟨fa, s, ef⟩ := hm.t
    have ef6 : f' 1 vs.length = some (ladT K C x fa s w Sk) := (i1 1 _ (by decide)).trans ef
    refine EvP.imp (ep_ltwin (K := K) (C := C) (W := W6) (ev_var (x := Raw.mk (.ref x)) (i := 10) rfl rv) (A6.get ef6)) fun u W7 ⟨y, fb, t, eu, r7, fy, ff, ft⟩ => ⟨2, vs.length, ladT K C y fb t w Sk, ⟨fun g k hg => by rw [thput_ne (.inl hg)]; exact i1 g k hg, fun k hk => ?_, ys ++ [y], by rw [eys, eu]; simp, fun k z hz => ?_⟩, i2 _ (Nat.le_refl _), r7, fun a ha => ?_⟩
    · rw [List.length_append, List.length_singleton] at hk
      rw [thput_ne (.inr (by omega))]
      exact i2 k (by omega)
    · by_cases ck : k = vs.length
      · subst ck
        rw [lv, List.getElem?_append_right (Nat.le_refl _)] at hz
        simp at hz
        subst hz
        exact ⟨Sk, fb, t, h3, thput_same⟩
      · have hk : k < ys.length := by
          have := (List.getElem?_eq_some_iff.mp hz).1
          simp at this
          omega
        rw [List.getElem?_append_left hk] at hz
        obtain ⟨S', fa', s', q1, q2⟩ := i3 k z hz
        exact ⟨S', fa', s', q1, by rw [thput_ne (.inr ck)]; exact q2⟩
    · simp only [ladT, List.mem_cons, List.not_mem_nil, or_false] at ha
      rcases ha with rfl | rfl | rfl <;> assumption
  have lyx : ys.length = xs.length := by rw [eys, List.length_map, List.length_map] at l9; exact l9
  have lm9 : LMut K W6 p9 (raws ys) := ⟨b9, _, h9, by rw [eys]; exact raws_reps ys⟩
  obtain ⟨o9, ho9, r9, ex9, mono9⟩ := lm9.fix
  let W7 : Wd := W6.fix p9 o9 ho9
  have G7 : Grow W5 W7 := mono9 W5 [] G6 f9
  have A7 : All W7 f6 := A6.fixd ho9 b9 hap9
  have G37 : Grow W3 W7 := G5.trans G7
  have rma7 := rep_g G37 rma
  have rla7 := rep_g G37 rla
  have rnv7 := rep_g G37 rnv
  have r97 : rep K W7.B (.ref p9) (raws ys) := r9
  have m0 := md 0 x0 u0 S0 hx0 hu0 hS0
  let bnd : Int := if gr = true then 270 else 50
  have bnd2 : bnd = 270 ∧ gr = true ∨ bnd = 50 ∧ gr = false := by
    cases gr with
    | true => exact .inl ⟨rfl, rfl⟩
    | false => exact .inr ⟨rfl, rfl⟩
  have bndk : ∀ k : Nat, (if gr = true ∧ k < 2 then (270 : Int) else 50) ≤ bnd := fun k => by
    by_cases c : gr = true ∧ k < 2
    · rw [if_pos c]
      rcases bnd2 with h | h
      · omega
      · rw [h.2] at c; exact absurd c.1 (by decide)
    · rw [if_neg c]
      rcases bnd2 with h | h <;> omega
  show tSeq _ _ _ (S (some (.ref ma)) (some (.ref la)) (some nv) (some (.ref x0)) (some u0) (some (.ref p9)) none none none none none none none none) W7.H
  let SB : V → Option V → Option V → Option V → Option V → Option V → Option V → Option V → Option V → SS := fun v8 v10 v11 v12 v13 v14 v15 v16 v17 => S (some (.ref ma)) (some (.ref la)) (some nv) (some (.ref x0)) (some v8) (some (.ref p9)) v10 v11 v12 v13 v14 v15 v16 v17
  show tSeq _ _ _ (SB u0 none none none none none none none none) W7.H
  have dr : ∀ {α : Type} (l : List α), 1 ≤ l.length → cutL l (some (1 : Int)) none = l.drop 1 := fun l h => by rw [show (1 : Int) = ((1 : Nat) : Int) from rfl, cut_from h]
  refine q_for (ε := pur) (K := K) (W := W7) (σ := SB u0 none none none none none none none none) (xs := ((raws xs).drop 1).zip ((vals us).drop 1)) (ei_zip ((ev_slL (ev_var (i := 4) rfl rma7) (eo_some (K := K) ev_int) eo_none).is (dr _ (by rw [List.length_map]; omega))) ((ev_slL (ev_var (i := 5) rfl rla7) (eo_some (K := K) ev_int) eo_none).is (dr _ (by rw [List.length_map]; omega)))) trivial fun W8 g8' => ?_
  have g8 := g8'.pure
  refine ⟨fun i σ' W' => ∃ (f' : Things) (v8 : V) (Sw : List Int × Stp1) (fa s : Addr) (v11 v12 v13 v14 : Option V), σ' = SB v8 none v11 v12 v13 v14 none none none ∧ On W8 W' ∧ All W' f' ∧ (∀ g k, ¬ (g = 1 ∧ k = 0) → f' g k = f6 g k) ∧ f' 1 0 = some (ladT K C x0 fa s w Sw) ∧ LeftAt K W' v8 (lv Sw) ∧ Lok w Sw ∧ fedS w Sw ≤ bnd * ((i : Nat) + 1), ?_, (fun i σ' W' h => by obtain ⟨_, _, _, _, _, _, _, _, _, _, o, _⟩ := h; exact o), ?_, ?_⟩
  · obtain ⟨fa, s, ef⟩ := m0.t
    exact ⟨f6, u0, S0, fa, s, none, none, none, none, rfl, .refl _, A7.gr g8, fun _ _ _ => rfl, (i1 1 0 (by decide)).trans ef, m0.l.gr (G37.trans g8), m0.lo, by have := m0.b; have := bndk 0; show fedS w S0 ≤ bnd * (((0 : Nat) : Int) + 1); omega⟩
  · rintro i pr vx σ' W9' W9 hi hpr ⟨f', v8, Sw, fa, s, v11, v12, v13, v14, rfl, o9', A9', e9, ef9, L9', lo9, hb9⟩ g9 rpr
    refine gt_p2 (j1 := 11) (j2 := 12) rpr fun v11' v12' r11 r12 => ?_
    have A9 := A9'.gr g9
    have o9 := o9'.trans g9.on
    have L9 := L9'.gr g9
    rw [List.length_zip, List.length_drop, List.length_drop, List.length_map, List.length_map] at hi
    obtain ⟨xk, vk, Sk, h1, h2, h3, mk⟩ := mdk (1 + i) (by omega)
    rw [List.getElem?_zip_eq_some, List.getElem?_drop, List.getElem?_drop, List.getElem?_map, List.getElem?_map, h1, h2] at hpr
    obtain ⟨q1, q2⟩ := hpr
    have q1 : Raw.mk (V.ref xk) = pr.1 := by simpa using q1
    have q2 : Raw.mk vk = pr.2 := by simpa using q2
    rw [show v11' = V.ref xk from by rw [show v11' = pr.1.v from r11, ← q1], show v12' = vk from by rw [show v12' = pr.2.v from r12, ← q2]]
    obtain ⟨fk, sk, efk⟩ := mk.t
    have ef9k : f' 1 (1 + i) = some (ladT K C xk fk sk w Sk) := (e9 1 (1 + i) (by omega)).trans ((i1 1 (1 + i) (by decide)).trans efk)
    have Lk9 : LeftAt K W9 vk (lv Sk) := (mk.l.gr (G37.trans g8)).on o9
    have bk := mk.b
    have bk2 := bndk (1 + i)
    have i2' : (i : Int) ≤ 1 := by omega
    have tot : fedS w Sw + fedS w Sk ≤ bnd * (((i + 1 : Nat) : Int) + 1) := by
      have : bnd * (((i + 1 : Nat) : Int) + 1) = bnd * ((i : Int) + 1) + bnd := by rw [show (((i + 1 : Nat) : Int) + 1) = ((i : Int) + 1) + 1 by push_cast; rfl, Int.mul_add bnd ((i : Int) + 1) 1, Int.mul_one]
      omega
    have tot2 : fedS w Sw + fedS w Sk ≤ 900 := by
      have : bnd * (((i + 1 : Nat) : Int) + 1) ≤ 270 * 3 := by
        rcases bnd2 with h | h <;> rw [h.1] <;> push_cast <;> omega
      omega
    have r0 : LadAt K C W9 x0 fa s w Sw := A9.get ef9
    have rk : LadAt K C W9 xk fk sk w Sk := A9.get ef9k
    show tSeq _ _ _ (SB v8 none (some (.ref xk)) (some vk) v13 v14 none none none) W9.H
    refine q_asg (ε := pur) (K := K) (W := W9) (σ := SB v8 none (some (.ref xk)) (some vk) v13 v14 none none none) (x := fedS w Sw + fedS w Sk) (ev_op (ev_lfed (ev_rvar (i := 7) rfl) r0) (ev_lfed (ev_rvar (i := 11) rfl) rk) ro_I0) trivial fun v13' W10 g10' e13 => ?_
    have g10 := g10'.pure
    rw [show v13' = V.int (fedS w Sw + fedS w Sk) from e13]
    have A10 := A9.gr g10
    have r010 := r0.gr g10
    have rk10 := rk.gr g10
    obtain ⟨dx, hx⟩ := r010.ex
    show tSeq _ _ _ (SB v8 none (some (.ref xk)) (some vk) (some (.int (fedS w Sw + fedS w Sk))) v14 none none none) W10.H
    refine ⟨_, rfl, x0, dx, _, rfl, hx, lf_no (by decide +kernel) (by decide +kernel) (by decide +kernel), _, rfl, rfl, .inl ⟨W10, x0, fa, s, xk, fk, sk, w, Sw, Sk, rfl, rfl, r010, rk10, lo9, mk.lo, by omega, fun W11 f1 s1 md11 r11' n1 n2 => ?_⟩⟩
    have A11 := A10.lad ef9 md11 r11' n1 n2
    obtain ⟨lop, fbp⟩ := pour_lok lo9 mk.lo (by omega)
    refine ⟨rfl, _, rfl, ?_⟩
    dsimp only
    rw [if_neg (show ¬ ((!decide (V.non = V.non)) = true) by simp)]
    refine ((et_test (ε := pur) (W := W11) (σ := SB v8 none (some (.ref xk)) (some vk) (some (.int (fedS w Sw + fedS w Sk))) v14 none none none) (ev_op (K := K) (ev_lfed (ev_rvar (i := 7) rfl) r11') (ev_var (x := fedS w Sw + fedS w Sk) (i := 13) rfl eI) ro_neI)).is (b' := false) (by rw [fbp]; simp)) W11 (.start trivial) _ fun W12 g12' => ?_
    have g12 := g12'.pure
    rw [if_neg Bool.false_ne_true]
    have o12 : On W9 W12 := (g10.on.trans md11.on).trans g12.on
    have A12 := A11.gr g12
    have L12 := L9.on o12
    have Lk12 := Lk9.on o12
    unfold tNext
    dsimp only
    show tSeq _ _ _ (SB v8 none (some (.ref xk)) (some vk) (some (.int (fedS w Sw + fedS w Sk))) v14 none none none) W12.H
    refine q_asgL ?_
    refine ⟨_, rfl, _, rfl, _, rfl, W12, v8, vk, w, Sw, Sk, rfl, rfl, L12, Lk12, lo9, mk.lo, by omega, fun v8' W13 g13 L13 => ?_⟩
    have r13 := (r11'.gr g12).gr g13
    show tSeq _ _ _ (SB v8' none (some (.ref xk)) (some vk) (some (.int (fedS w Sw + fedS w Sk))) v14 none none none) W13.H
    refine q_when (ε := pur) (W := W13) (σ := SB v8' none (some (.ref xk)) (some vk) (some (.int (fedS w Sw + fedS w Sk))) v14 none none none) (b := false) ((et_not (et_B (K := K) (b := true) (fun W14 g14 Q' q' => ⟨_, rfl, _, rfl, W14, x0, f1, s1, w, pourS w Sw Sk, v8', rfl, rfl, r13.gr g14.pure, L13.gr g14.pure, fun W15 g15 => q' _ W15 (.of g15) rfl⟩))).is rfl) trivial (fun z => by cases z) fun _ W14 g14' => ?_
    have g14 := g14'.pure
    have L14 := L13.gr g14
    obtain ⟨dd, hdd, dsd, _⟩ := ev_lf0 (ε := pur) (σ := SB v8' none (some (.ref xk)) (some vk) (some (.int (fedS w Sw + fedS w Sk))) v14 none none none) (te := tVar 8) (v := v8') (ev_var (x := Raw.mk v8') (i := 8) rfl rfl) L14
    have kl : (pourS w Sw Sk).2.length ≤ 40 := lok_len r13.ok
    have n0 : 0 ≤ fedS w Sw + fedS w Sk := by rw [← fbp, ← plain_len lop]; omega
    have hbt : ∀ hh : Nat, decide (PySem.Builtin.bitAnd ((fedS w Sw + fedS w Sk) / (w : Int) / 2 ^ ((hh : Int)).toNat) 1 = 1) = decide (bit ((fedS w (pourS w Sw Sk)).toNat / w) hh) := fun hh => by
      rw [← bits_same, Int.toNat_of_nonneg (by rw [fbp]; exact n0), fbp]
    refine s_when (ε := pur) (W := W14) (σ := SB v8' none (some (.ref xk)) (some vk) (some (.int (fedS w Sw + fedS w Sk))) v14 none none none) (b := false) ((et_test (ev_op (K := K) (x := sortI ((pourS w Sw Sk).2.map (·.1))) (y := ((List.range 12).filter fun k => decide (bit ((fedS w (pourS w Sw Sk)).toNat / w) k)).map fun k : Nat => (k : Int)) (ev_sortedDE hdd dsd (by show (pourS w Sw Sk).2.length < 64; omega)) ((ev_lcNt (α := Int) (xs := rng 0 12) (p := fun z => decide (PySem.Builtin.bitAnd ((fedS w Sw + fedS w Sk) / (w : Int) / 2 ^ z.toNat) 1 = 1)) (f := fun z => z) (EvJ.i (ei_rng1 (n := 12) ev_int (by decide) (by decide))) (fun z v' W' hz g rz => ?_) (fun z v' W' hz hp g rz => ev_var (x := z) (i := 14) rfl rz) (by rw [rng_len]; decide)).is ?_) (ro_neT (by decide)))).is (by rw [keys_bits lop (by omega)]; simp)) trivial (fun z => by cases z) fun _ W15 g15' => ?_
    · have z0 : 0 ≤ z := by
        obtain ⟨n, hn, rfl⟩ := List.mem_map.mp hz
        omega
      exact et_test (ev_op (K := K) (ev_op (x := (fedS w Sw + fedS w Sk) / (w : Int) / 2 ^ z.toNat) (y := (1 : Int)) (ev_op (x := (fedS w Sw + fedS w Sk) / (w : Int)) (y := z) (ev_op (x := fedS w Sw + fedS w Sk) (y := (w : Int)) (ev_var (i := 13) rfl eI) (ev_var (i := 2) rfl eI) (ro_I ⟨by omega, by omega⟩)) (ev_var (i := 14) rfl rz) (ro_I (by exact z0))) ev_int ro_I0) ev_int ro_eqI)
    · rw [List.map_id', rng_cast, List.filter_map]
      congr 1
      exact List.filter_congr fun hh _ => hbt hh
    have g15 := g15'.pure
    have GG := g13.trans (g14.trans g15)
    refine ⟨W15, rfl, _, v8', pourS w Sw Sk, f1, s1, _, _, _, _, rfl, (o9.trans o12).trans GG.on, A12.gr GG, fun g k hg => by rw [thput_ne (by omega)]; exact e9 g k hg, thput_same, L13.gr (g14.trans g15), lop, by rw [fbp]; exact tot⟩
  · rintro σ' W9 ⟨f', v8, Sw, fa, s, v11, v12, v13, v14, rfl, o9, A9, e9, ef9, L9, lo9, hb9⟩
    have lz : (((raws xs).drop 1).zip ((vals us).drop 1)).length = xs.length - 1 := by rw [List.length_zip, List.length_drop, List.length_drop, List.length_map, List.length_map]; omega
    rw [lz] at hb9
    have hb810 : fedS w Sw ≤ 810 := by
      have : bnd * (((xs.length - 1 : Nat) : Int) + 1) ≤ 270 * 3 := by
        rcases bnd2 with h | h <;> rw [h.1] <;> omega
      omega
    have hb150 : gr = false → fedS w Sw ≤ 150 := fun hg => by
      have : bnd * (((xs.length - 1 : Nat) : Int) + 1) ≤ 50 * 3 := by
        rcases bnd2 with h | h
        · rw [h.2] at hg; cases hg
        · rw [h.1]; omega
      omega
    show tSeq _ _ _ (SB v8 none v11 v12 v13 v14 none none none) W9.H
    refine seqGL (fun σ' H' => ∃ (f2 : Things) (W' : Wd) (v8 : V) (S2 : List Int × Stp1) (fa s : Addr), W'.H = H' ∧ σ' = SB v8 none v11 v12 v13 v14 none none none ∧ On W8 W' ∧ All W' f2 ∧ (∀ g k, ¬ (g = 1 ∧ k = 0) → f2 g k = f6 g k) ∧ f2 1 0 = some (ladT K C x0 fa s w S2) ∧ LeftAt K W' v8 (lv S2) ∧ Lok w S2 ∧ fedS w S2 ≤ 810) (fun Z hZ => ?_) ?_
    · refine s_when (ε := pur) (W := W9) (σ := SB v8 none v11 v12 v13 v14 none none none) (b := !gr) (et_not (et_B (ev_var (x := gr) (i := 3) rfl eB))) trivial (fun hz W10 g10' => ?_) (fun hz W10 g10' => ?_)
      · have g10 := g10'.pure
        have hb1 := hb150 (by simpa using hz)
        have A10 := A9.gr g10
        have L10 := L9.gr g10
        show tSeq _ _ _ (SB v8 none v11 v12 v13 v14 none none none) W10.H
        refine q_asgL ?_
        refine ⟨_, rfl, _, rfl, _, rfl, W10, v8, v8, w, Sw, Sw, rfl, rfl, L10, L10, lo9, lo9, by omega, fun v8' W11 g11 L11 => ?_⟩
        have A11 := A10.gr g11
        have r11 : LadAt K C W11 x0 fa s w Sw := A11.get ef9
        obtain ⟨dx, hx⟩ := r11.ex
        obtain ⟨lop, fbp⟩ := pour_lok lo9 lo9 (by omega)
        show tDrop _ _ (SB v8' none v11 v12 v13 v14 none none none) W11.H
        exact ⟨_, rfl, x0, dx, _, rfl, hx, lf_no (by decide +kernel) (by decide +kernel) (by decide +kernel), _, rfl, .inl ⟨W11, x0, fa, s, x0, fa, s, w, Sw, Sw, rfl, rfl, r11, r11, lo9, lo9, by omega, fun W12 f1 s1 md12 r12 n1 n2 => hZ _ _ ⟨_, W12, v8', pourS w Sw Sw, f1, s1, rfl, rfl, ((o9.trans g10.on).trans g11.on).trans md12.on, A11.lad ef9 md12 r12 n1 n2, fun g k hg => by rw [thput_ne (by omega)]; exact e9 g k hg, thput_same, L11.on md12.on, lop, by omega⟩⟩⟩
      · have g10 := g10'.pure
        exact hZ _ _ ⟨f', W10, v8, Sw, fa, s, rfl, rfl, o9.trans g10.on, A9.gr g10, e9, ef9, L9.gr g10, lo9, hb810⟩
    · rintro _ _ ⟨f2, W10, v8, S2, fa, s, rfl, rfl, o10, A10, e10, ef10, L10, lo10, hb10⟩
      have st10 : f2 0 0 = some (sdT K p) := (e10 0 0 (by omega)).trans ((i1 0 0 (by decide)).trans e00)
      have s10 : Sd K W10 p := A10.get st10
      refine q_asgP (ε := drd K p) (W := W10) (σ := SB v8 none v11 v12 v13 v14 none none none) (ex_dL (K := K) (p := p) (i := 1) (n := 1000001) rfl (by decide) (by decide)) s10 fun v15 W11 g11 ⟨n, hn, en⟩ => ?_
      rw [show v15 = V.int n from en]
      have nr : NumR n := ⟨hn.1, by omega⟩
      have A11 := A10.drd st10 g11
      have L11 := L10.on g11.on
      have r11 : LadAt K C W11 x0 fa s w S2 := A11.get ef10
      obtain ⟨dx, hx⟩ := r11.ex
      obtain ⟨lo12, fb12⟩ := lok_feed lo10 nr
      show tDrop _ _ (SB v8 none v11 v12 v13 v14 (some (.int n)) none none) W11.H
      refine ⟨_, rfl, x0, dx, _, rfl, hx, lf_no kfe2.1 kfe2.2.1 kfe2.2.2, _, rfl, .inl ⟨W11, x0, fa, s, w, S2, n, rfl, rfl, r11, nr.1, nr.2, lok_lks lo12 (by omega), fun W12 f1 md12 r12 nw => ?_⟩⟩
      have A12 := A11.lad ef10 md12 r12 nw (.inl rfl)
      have L12 := L11.on md12.on
      have lks := lok_lks lo10 (by omega)
      dsimp only
      show tSeq _ _ _ (SB v8 none v11 v12 v13 v14 (some (.int n)) none none) W12.H
      refine q_asgL ?_
      refine ⟨_, rfl, _, rfl, _, rfl, W12, v8, w, lv S2, n, rfl, rfl, L12, ⟨lks.w1, lks.w8, by show (sortI _).length < w; rw [(sortI_perm _).length_eq]; exact lks.fl, lks.k, lks.ks, lks.ln⟩, fun v8' W13 g13 L13 => ?_⟩
      rw [with_lv lo10.fl] at L13
      have A13 := A12.gr g13
      have r13 := r12.gr g13
      generalize feedF w S2 n = S3 at *
      have hb3 : fedS w S3 ≤ 811 := by omega
      let SC : Option V → Option V → SS := fun v16 v17 => SB v8' none v11 v12 v13 v14 (some (.int n)) v16 v17
      show tSeq _ _ _ (SC none none) W13.H
      have alk : ∀ {W' : Wd} {v16 v17 : Option V}, LadAt K C W' x0 f1 s w S3 → LeftAt K W' v8' (lv S3) → EvR pur K (tCall (sp__law_alike K C) [] E0 (tCons (tVar 7) (tCons (tVar 8) tNil))) (SC v16 v17) W' true := fun {W' v16 v17} r L W14 g14 Q' q' => ⟨_, rfl, _, rfl, W14, x0, f1, s, w, S3, v8', rfl, rfl, r.gr g14.pure, L.gr g14.pure, fun W15 g15 => q' _ W15 (.of g15) rfl⟩
      have lo3' : Lok w (lv S3) := ⟨lo12.w1, lo12.w8, by show (sortI S3.1).length < w; rw [(sortI_perm _).length_eq]; exact lo12.fl, fun x hx => lo12.fn x ((sortI_perm _).mem_iff.mp hx), lo12.k, lo12.rg⟩
      have pl1 := plain_len lo12
      have pl2 := plain_len lo3'
      have fe : fedS w (lv S3) = fedS w S3 := by
        show ((sortI S3.1).length : Int) + Wt w S3.2 = (S3.1.length : Int) + Wt w S3.2
        rw [(sortI_perm _).length_eq]
      have fdE : EvR pur K (tCall (sp_is_fed K C) [] E0 (tCons (tVar 7) (tCons (tCall (sp__law_plain K C) [] E0 (tCons (tVar 7) tNil)) tNil))) (SC none none) W13 true := fun W14 g14 Q' q' => by
        have r14 := r13.gr g14.pure
        refine ⟨_, rfl, _, rfl, W14, x0, f1, s, w, S3, rfl, rfl, r14, lo12, by omega, fun u W15 g15 ru => ?_⟩
        refine ⟨W15, x0, f1, s, w, S3, u, .t ((plainL (lv S3)).map PyData.int), plainL S3, rfl, rfl, r14.gr g15, plain_ok lo12, rep_dtt ru, by show ((plainL (lv S3)).map PyData.int).length ≤ 1000; rw [List.length_map]; omega, by omega, fun W16 g16 => ?_⟩
        rw [fed_plain lo12 (by omega)]
        exact q' _ W16 (.of (g15.trans g16)) rfl
      refine q_when (ε := pur) (W := W13) (σ := SC none none) (b := false) ((et_or (a := false) (b := false) ((et_not (et_B (alk r13 L13))).is rfl) fun _ => (et_test (ev_op fdE ev_bl ro_notIsB)).is rfl).is rfl) trivial (fun z => by cases z) fun _ W14 g14' => ?_
      have g14 := g14'.pure
      have A14 := A13.gr g14
      have o14 : On W8 W14 := ((o10.trans g11.on).trans md12.on).trans (g13.trans g14).on
      have rma14 := rep_on o14 (rep_g g8 rma7)
      have r914 := rep_on o14 (rep_g g8 r97)
      show tSeq _ _ _ (SC none none) W14.H
      refine ⟨_, rfl, _, rfl, _, rfl, _, rfl, W14, _, .ref ma, .ref p9, xs, ys, Ss, w, n, rfl, rfl, A14, rma14, r914, by omega, l3, lyx, lS, w8, nr, fun kk x y Sk h1 hx hy hSk => ?_, fun W15 f15 o15 A15 e15 => ⟨_, rfl, ?_⟩⟩
      · have hlt : kk < xs.length := (List.getElem?_eq_some_iff.mp hx).1
        obtain ⟨x', v', S', q1, q2, q3, mk⟩ := mdk kk hlt
        rw [hx] at q1
        cases q1
        rw [hSk] at q3
        cases q3
        obtain ⟨fk, sk, efk⟩ := mk.t
        obtain ⟨S'', fb, t, q4, q5⟩ := i3 kk y hy
        rw [hSk] at q4
        cases q4
        have b1 := mk.b
        have b2 := bndk kk
        refine ⟨mk.lo, by rcases bnd2 with h | h <;> omega, ⟨fk, sk, ?_⟩, ⟨fb, t, ?_⟩⟩
        · rw [thput_ne (.inr (by omega)), e10 1 kk (by omega), i1 1 kk (by decide)]
          exact efk
        · rw [thput_ne (.inl (by decide)), e10 2 kk (by omega)]
          exact q5
      · dsimp only
        rw [if_neg (by simp)]
        unfold tNext
        dsimp only
        show tSeq _ _ _ (SC none none) W15.H
        have st15 : f15 0 0 = some (sdT K p) := (e15 0 0 (.inl (by decide))).trans (by rw [thput_ne (.inl (by decide))]; exact st10)
        have ef15 : f15 1 0 = some (ladT K C x0 f1 s w S3) := (e15 1 0 (.inr rfl)).trans thput_same
        have L15 : LeftAt K W15 v8' (lv S3) := (L13.gr g14).on o15
        have rnv15 := rep_on o15 (rep_on o14 (rep_g g8 rnv7))
        let w2 : Nat := w % 8 + 1
        have w2n : w2 ≠ w := by show w % 8 + 1 ≠ w; omega
        have w2b : 1 ≤ w2 ∧ w2 ≤ 8 := by show 1 ≤ w % 8 + 1 ∧ w % 8 + 1 ≤ 8; omega
        have w2E : ∀ {W' : Wd} {v16 v17 : Option V}, EvR pur K (tOp oAdd (tOp oMod (tVar 2) (tC (.int 8))) (tC (.int 1))) (SC v16 v17) W' (w2 : Int) := fun {W' v16 v17} => (ev_op (x := (w : Int) % 8) (y := (1 : Int)) (ev_op (x := (w : Int)) (y := (8 : Int)) (ev_var (i := 2) rfl eI) ev_int (ro_I (by decide))) ev_int ro_I0).is (by show (w : Int) % 8 + 1 = ((w % 8 + 1 : Nat) : Int); push_cast; rfl)
        refine q_asgL (call2H ?_)
        refine w2E (W' := W15) (v16 := none) (v17 := none) W15 (.start trivial) _ fun v1 W16 g16 e1 => ?_
        rw [show v1 = V.int w2 from e1]
        refine ev_slL (K := K) (ε := pur) (W := W16) (σ := SC none none) (ev_var (i := 6) rfl (rep_s g16 rnv15)) eo_none (eo_some (K := K) ev_int) W16 (.start trivial) _ fun v2 W17 g17 r17 => ?_
        have ect : cutL nums none (some (20 : Int)) = nums.take 20 := cut_toN (n := 20)
        rw [ect] at r17
        have A17 := A15.gr (g16.pure.trans g17.pure)
        refine .inl ⟨W17, w2, v2, .l ((nums.take 20).map PyData.int), rfl, rfl, rep_dts r17, w2b.1, w2b.2, ?_, by show ((nums.take 20).map PyData.int).length ≤ 1000; rw [List.length_map, List.length_take]; omega, fun yo fo so Sy W18 g18 ry _ _ fy ff fs => ?_⟩
        · show ((true || false) && ((nums.take 20).map PyData.int).all numD) = true
          rw [numD_all fun z hz => hnn z (List.mem_of_mem_take hz)]
          rfl
        have A18 := A17.gr g18
        have G18 := (g16.pure.trans g17.pure).trans g18
        have r18 : LadAt K C W18 x0 f1 s w S3 := A18.get ef15
        have rnv18 := rep_g G18 rnv15
        show tSeq _ _ _ (SC (some (.ref yo)) none) W18.H
        refine q_asgL (opH (lst7H ?_))
        refine ev_non (K := K) (ε := pur) (W := W18) (σ := SC (some (.ref yo)) none) W18 (.start trivial) _ fun z1 W19 g19 e19 => ?_
        refine ep_ladderE (K := K) (C := C) (E := E0) (w := w2) (W := W19) (σ := SC (some (.ref yo)) none) w2E w2b.1 w2b.2 W19 (.start trivial) _ fun z2 W20 g20 ⟨yn, fn, sn, e20, rn20, fn1, fn2, fn3⟩ => ?_
        refine ev_rvar (K := K) (ε := pur) (W := W20) (σ := SC (some (.ref yo)) none) (i := 16) rfl W20 (.start trivial) _ fun z3 W21 g21 e21 => ?_
        refine ev_var (K := K) (ε := pur) (W := W21) (σ := SC (some (.ref yo)) none) (i := 6) rfl (rep_g ((g19.pure.trans g20.pure).trans g21.pure) rnv18) W21 (.start trivial) _ fun z4 W22 g22 e22 => ?_
        refine ev_int (K := K) (ε := pur) (W := W22) (σ := SC (some (.ref yo)) none) W22 (.start trivial) _ fun z5 W23 g23 e23 => ?_
        refine em_new (κ := Int) (α := Int) (K := K) (ε := pur) (W := W23) (σ := SC (some (.ref yo)) none) W23 (.start trivial) _ fun z6 W24 g24 f24 m24 => ?_
        have H2 := g19.pure.trans (g20.pure.trans (g21.pure.trans (g22.pure.trans (g23.pure.trans g24.pure))))
        refine em_rungs (K := K) (C := C) (W := W24) (σ := SC (some (.ref yo)) none) (ev_rvar (i := 7) rfl) (r18.gr H2) W24 (.start trivial) _ fun z7 W25 g25 f25 m25 => ⟨Evl.sz_of (by show 7 ≤ 100000; decide), fun pl hpl => ?_⟩
        have g26 : Grow W25 (W25.add pl (.lst [z1, z2, z3, z4, z5, .ref z6, .ref z7])) := W25.grow_add hpl
        have hl26 : (W25.add pl (.lst [z1, z2, z3, z4, z5, .ref z6, .ref z7])).B pl = some (.lst [z1, z2, z3, z4, z5, .ref z6, .ref z7]) := upd_same
        show tCall (sp__law_draw K) [] E0 (tCons (tVar 1) (tCons (tC (V.int 7)) tNil)) (SC (some (V.ref yo)) none) (W25.add pl (.lst [z1, z2, z3, z4, z5, .ref z6, .ref z7])).H _
        generalize W25.add pl (.lst [z1, z2, z3, z4, z5, .ref z6, .ref z7]) = W26 at *
        have A17' : All W17 (thput (thput (fun _ _ => none) 0 0 (sdT K p)) 1 0 (ladT K C x0 f1 s w S3)) := A17.sub (by
          intro g k q e
          unfold thput at e
          split at e
          · rename_i c
            rw [c.1, c.2, ← e]
            exact ef15
          · split at e
            · rename_i c
              rw [c.1, c.2, ← e]
              exact st15
            · cases e)
        have A18' := A17'.new (g := 3) (k := 0) (q := ladT K C yo fo so w2 Sy) g18 ry (by
          intro a ha
          simp only [ladT, List.mem_cons, List.not_mem_nil, or_false] at ha
          rcases ha with rfl | rfl | rfl
          · exact fy
          · exact ff
          · exact fs) rfl
        have A20' := (A18'.gr g19.pure).new (g := 4) (k := 0) (q := ladT K C yn fn sn w2 ([], [])) g20.pure rn20 (by
          intro a ha
          simp only [ladT, List.mem_cons, List.not_mem_nil, or_false] at ha
          rcases ha with rfl | rfl | rfl
          · exact fn1
          · exact fn2
          · exact fn3) rfl
        have A26 := A20'.gr (g21.pure.trans (g22.pure.trans (g23.pure.trans (g24.pure.trans (g25.pure.trans g26)))))
        refine ex_dL (K := K) (p := p) (i := 1) (n := 7) (W := W26) (σ := SC (some (.ref yo)) none) rfl (by decide) (by decide) W26 (.start (A26.get (g := 0) (k := 0) (q := sdT K p) rfl)) _ fun v27 W27 g27 ⟨r, hr, e27⟩ => ?_
        rw [show v27 = V.int r from e27]
        have A27 := A26.drd (g := 0) (k := 0) (p := p) rfl g27
        have r27 : LadAt K C W27 x0 f1 s w S3 := A27.get (g := 1) (k := 0) (q := ladT K C x0 f1 s w S3) rfl
        have ry27 : LadAt K C W27 yo fo so w2 Sy := A27.get (g := 3) (k := 0) (q := ladT K C yo fo so w2 Sy) rfl
        have rn27 : LadAt K C W27 yn fn sn w2 ([], []) := A27.get (g := 4) (k := 0) (q := ladT K C yn fn sn w2 ([], [])) rfl
        have L27 : LeftAt K W27 v8' (lv S3) := (L15.gr ((g16.pure.trans (g17.pure.trans (g18.trans (g19.pure.trans (g20.pure.trans (g21.pure.trans (g22.pure.trans (g23.pure.trans (g24.pure.trans (g25.pure.trans g26))))))))))  )).on g27.on
        have hB : W27.B pl = some (.lst [z1, z2, z3, z4, z5, .ref z6, .ref z7]) := g27.on.b _ _ hl26
        have p23 : W23.H p ≠ none := (A20'.gr (g21.pure.trans (g22.pure.trans g23.pure))).get (g := 0) (k := 0) (q := sdT K p) rfl |>.dom
        have p24 : W24.H p ≠ none := (A20'.gr (g21.pure.trans (g22.pure.trans (g23.pure.trans g24.pure)))).get (g := 0) (k := 0) (q := sdT K p) rfl |>.dom
        have m27a : DMut K W27 z6 ([] : List (Int × Int)) := (m24.gr (g25.pure.trans g26)).g g27.md (by
          intro z
          rw [List.mem_singleton.mp z] at f24
          exact p23 f24)
        have m27b : DMut K W27 z7 (rungsL S3.2) := (m25.gr g26).g g27.md (by
          intro z
          rw [List.mem_singleton.mp z] at f25
          exact p24 f25)
        have r4 : rep K W27.B z4 nums := rep_on g27.on (rep_g (g23.pure.trans (g24.pure.trans (g25.pure.trans g26))) e22)
        have hz : ∃ z, atI [z1, z2, z3, z4, z5, .ref z6, .ref z7] r = some z ∧ (KdOf K C z W27 ∨ ∃ (y f' s' : Addr) (w' : Nat) (S' : List Int × Stp1), z = .ref y ∧ LadAt K C W27 y f' s' w' S' ∧ w' ≠ w) := by
          have c : r = 0 ∨ r = 1 ∨ r = 2 ∨ r = 3 ∨ r = 4 ∨ r = 5 ∨ r = 6 := by omega
          rcases c with rfl | rfl | rfl | rfl | rfl | rfl | rfl
          · exact ⟨_, rfl, .inl ⟨.type "NoneType", fun W' g => ty_non W' _ e19, nl.n⟩⟩
          · exact ⟨_, rfl, .inr ⟨yn, fn, sn, w2, _, e20, rn27, w2n⟩⟩
          · exact ⟨_, rfl, .inr ⟨yo, fo, so, w2, _, e21, ry27, w2n⟩⟩
          · exact ⟨_, rfl, .inl ⟨.type "list", fun W' g => ty_lst W' _ (rep_g g r4), nl.l⟩⟩
          · exact ⟨_, rfl, .inl ⟨.type "int", fun W' g => ty_int W' _ e23, nl.i⟩⟩
          · exact ⟨_, rfl, .inl ⟨.type "dict", fun W' g => by obtain ⟨ks, e, _⟩ := (m27a.gr g).ex; exact .base (.dK e), nl.d⟩⟩
          · exact ⟨_, rfl, .inl ⟨.type "dict", fun W' g => by obtain ⟨ks, e, _⟩ := (m27b.gr g).ex; exact .base (.dK e), nl.d⟩⟩
        obtain ⟨z, ez, hz⟩ := hz
        refine ⟨pl, _, r, z, rfl, rfl, SqL.of (W27.sub.el hB), ez, ?_⟩
        show tRet _ _ (SC (some (.ref yo)) (some z)) W27.H
        have rfE : EvR pur K (tCall (sp__law_refused K C) [] E0 (tCons (tVar 7) (tCons (tVar 17) tNil))) (SC (some (.ref yo)) (some z)) W27 true := fun W28 g28 Q' q' => ⟨_, rfl, _, rfl, W28, x0, f1, s, w, S3, z, rfl, rfl, r27.gr g28.pure, hz.elim (fun h => .inl (h.gr g28.pure)) (fun ⟨y, f', s', w', S', h1, h2, h3⟩ => .inr ⟨y, f', s', w', S', h1, h2.gr g28.pure, h3⟩), fun W29 g29 => q' _ W29 (.of g29) rfl⟩
        refine s_ret (x := true) (ε := pur) (K := K) (W := W27) (ev_andV (a := true) (b := true) rfE fun _ => alk r27 L27) trivial fun v28 W28 g28 e => ?_
        rw [show v28 = V.bl true from e]
        exact k _
end
end B
namespace B
open PySem L2 PyProof.Rows PySem.Spec
open Evl (Ex)
def relS (scope sc : Scope) : Scope := { scope with names := scope.names.map fun (n, k) => if (k == .free && sc.kind == .function && sc.names.lookup n == some .cell) then (n, .cell) else (n, k) }
theorem blkOk_in {X : Cx} {N : List Str} {scO sc scope : Scope} {own : List (Str × Nat)} {s : Shared} {H : Hp} {C : Addr} {cl : List (Str × Addr)} {fp : List Addr} (hN : X.N = N) (hsc : X.env.scope = sc) (h : blkC N (relS scO sc) scope own = true) : BlkOk (X.blk s H scO (compEnvC scO cl C X.env) fp).N (X.blk s H scO (compEnvC scO cl C X.env) fp).env.scope scope own := by
  subst hN hsc
  exact blkOk_by h
def topS (i : Nat) : Stmt := PySem.Challenge.pw_bygone_k51_ladders_poured.main.body.getD i (.Pass ⟨0, 0, 0, 0⟩)
/-! is_number -/
abbrev s_is_number : Stmt := topS 7
theorem sc_is_number : FnScope n_is_number ["thing"] (defScope s_is_number) := ⟨rfl, rfl, rfl, by decide +kernel, rfl, by decide +kernel, by decide +kernel⟩
/-! as_one -/
abbrev s_as_one : Stmt := topS 8
theorem sc_as_one : FnScope n_as_one ["one", "other"] (defScope s_as_one) := ⟨rfl, rfl, rfl, by decide +kernel, rfl, by decide +kernel, by decide +kernel⟩
/-! Ladder.__init__ -/
abbrev s_Ladder___init__ : Stmt := inClass (topS 9) 0
theorem sc_Ladder___init__ : FnScope n_Ladder___init__ ["self", "size"] (defScope s_Ladder___init__) := ⟨rfl, rfl, rfl, by decide +kernel, rfl, by decide +kernel, by decide +kernel⟩
/-! Ladder.size -/
abbrev s_Ladder_size : Stmt := inClass (topS 9) 1
theorem sc_Ladder_size : FnScope n_Ladder_size ["self"] (defScope s_Ladder_size) := ⟨rfl, rfl, rfl, by decide +kernel, rfl, by decide +kernel, by decide +kernel⟩
/-! Ladder.loose -/
abbrev s_Ladder_loose : Stmt := inClass (topS 9) 2
theorem sc_Ladder_loose : FnScope n_Ladder_loose ["self"] (defScope s_Ladder_loose) := ⟨rfl, rfl, rfl, by decide +kernel, rfl, by decide +kernel, by decide +kernel⟩
/-! Ladder.rungs -/
abbrev s_Ladder_rungs : Stmt := inClass (topS 9) 3
theorem sc_Ladder_rungs : FnScope n_Ladder_rungs ["self"] (defScope s_Ladder_rungs) := ⟨rfl, rfl, rfl, by decide +kernel, rfl, by decide +kernel, by decide +kernel⟩
/-! Ladder.fed -/
abbrev s_Ladder_fed : Stmt := inClass (topS 9) 4
theorem sc_Ladder_fed : FnScope n_Ladder_fed ["self"] (defScope s_Ladder_fed) := ⟨rfl, rfl, rfl, by decide +kernel, rfl, by decide +kernel, by decide +kernel⟩
/-! Ladder.twin -/
abbrev s_Ladder_twin : Stmt := inClass (topS 9) 5
theorem sc_Ladder_twin : FnScope n_Ladder_twin ["self"] (defScope s_Ladder_twin) := ⟨rfl, rfl, rfl, by decide +kernel, rfl, by decide +kernel, by decide +kernel⟩
/-! Ladder.__eq__ -/
abbrev s_Ladder___eq__ : Stmt := inClass (topS 9) 6
theorem sc_Ladder___eq__ : FnScope n_Ladder___eq__ ["self", "other"] (defScope s_Ladder___eq__) := ⟨rfl, rfl, rfl, by decide +kernel, rfl, by decide +kernel, by decide +kernel⟩
/-! Ladder.feed -/
abbrev s_Ladder_feed : Stmt := inClass (topS 9) 7
theorem sc_Ladder_feed : FnScope n_Ladder_feed ["self", "number"] (defScope s_Ladder_feed) := ⟨rfl, rfl, rfl, by decide +kernel, rfl, by decide +kernel, by decide +kernel⟩
/-! Ladder.pour -/
abbrev s_Ladder_pour : Stmt := inClass (topS 9) 8
theorem sc_Ladder_pour : FnScope n_Ladder_pour ["self", "other"] (defScope s_Ladder_pour) := ⟨rfl, rfl, rfl, by decide +kernel, rfl, by decide +kernel, by decide +kernel⟩
/-! ladder_of -/
abbrev s_ladder_of : Stmt := topS 10
theorem sc_ladder_of : FnScope n_ladder_of ["size", "numbers"] (defScope s_ladder_of) := ⟨rfl, rfl, rfl, by decide +kernel, rfl, by decide +kernel, by decide +kernel⟩
/-! is_fed -/
abbrev s_is_fed : Stmt := topS 11
theorem sc_is_fed : FnScope n_is_fed ["ladder", "thing"] (defScope s_is_fed) := ⟨rfl, rfl, rfl, by decide +kernel, rfl, by decide +kernel, by decide +kernel⟩
/-! _law_begun -/
abbrev s__law_begun : Stmt := topS 13
theorem sc__law_begun : FnScope n__law_begun ["_law_script"] (defScope s__law_begun) := ⟨rfl, rfl, rfl, by decide +kernel, rfl, by decide +kernel, by decide +kernel⟩
/-! _law_draw -/
abbrev s__law_draw : Stmt := topS 14
theorem sc__law_draw : FnScope n__law_draw ["_law_state", "_law_many"] (defScope s__law_draw) := ⟨rfl, rfl, rfl, by decide +kernel, rfl, by decide +kernel, by decide +kernel⟩
/-! _law_number -/
abbrev s__law_number : Stmt := topS 15
theorem sc__law_number : FnScope n__law_number ["_law_state", "_law_way", "_law_base"] (defScope s__law_number) := ⟨rfl, rfl, rfl, by decide +kernel, rfl, by decide +kernel, by decide +kernel⟩
/-! _law_numbers -/
abbrev s__law_numbers : Stmt := topS 16
theorem sc__law_numbers : FnScope n__law_numbers ["_law_state", "_law_many"] (defScope s__law_numbers) := ⟨rfl, rfl, rfl, by decide +kernel, rfl, by decide +kernel, by decide +kernel⟩
/-! _law_joined -/
abbrev s__law_joined : Stmt := topS 17
theorem sc__law_joined : FnScope n__law_joined ["_law_one", "_law_another"] (defScope s__law_joined) := ⟨rfl, rfl, rfl, by decide +kernel, rfl, by decide +kernel, by decide +kernel⟩
/-! _law_with -/
abbrev s__law_with : Stmt := topS 18
theorem sc__law_with : FnScope n__law_with ["_law_left", "_law_wide", "_law_number_here"] (defScope s__law_with) := ⟨rfl, rfl, rfl, by decide +kernel, rfl, by decide +kernel, by decide +kernel⟩
/-! _law_poured -/
abbrev s__law_poured : Stmt := topS 19
theorem sc__law_poured : FnScope n__law_poured ["_law_one", "_law_another", "_law_wide"] (defScope s__law_poured) := ⟨rfl, rfl, rfl, by decide +kernel, rfl, by decide +kernel, by decide +kernel⟩
/-! _law_alike -/
abbrev s__law_alike : Stmt := topS 20
theorem sc__law_alike : FnScope n__law_alike ["_law_ladder", "_law_left"] (defScope s__law_alike) := ⟨rfl, rfl, rfl, by decide +kernel, rfl, by decide +kernel, by decide +kernel⟩
/-! _law_plain -/
abbrev s__law_plain : Stmt := topS 21
theorem sc__law_plain : FnScope n__law_plain ["_law_ladder"] (defScope s__law_plain) := ⟨rfl, rfl, rfl, by decide +kernel, rfl, by decide +kernel, by decide +kernel⟩
/-! _law_refused -/
abbrev s__law_refused : Stmt := topS 22
theorem sc__law_refused : FnScope n__law_refused ["_law_ladder", "_law_thing"] (defScope s__law_refused) := ⟨rfl, rfl, rfl, by decide +kernel, rfl, by decide +kernel, by decide +kernel⟩
/-! _law_drawn -/
abbrev s__law_drawn : Stmt := topS 23
theorem sc__law_drawn : FnScope n__law_drawn ["_law_state", "_law_wide", "_law_great"] (defScope s__law_drawn) := ⟨rfl, rfl, rfl, by decide +kernel, rfl, by decide +kernel, by decide +kernel⟩
/-! _law_apart -/
abbrev s__law_apart : Stmt := topS 24
theorem sc__law_apart : FnScope n__law_apart ["_law_made", "_law_twins", "_law_wide", "_law_extra"] (defScope s__law_apart) := ⟨rfl, rfl, rfl, by decide +kernel, rfl, by decide +kernel, by decide +kernel⟩
/-! law -/
abbrev s_law : Stmt := topS 25
theorem sc_law : FnScope n_law ["_law_script"] (defScope s_law) := ⟨rfl, rfl, rfl, by decide +kernel, rfl, by decide +kernel, by decide +kernel⟩

structure Tx (K : Fg) (mg : Str → Option Value) where
  m_isinstance : mg "isinstance" = none
  m_int : mg "int" = none
  m_bool : mg "bool" = none
  m_tuple : mg "tuple" = none
  m_sorted : mg "sorted" = none
  m_len : mg "len" = none
  m_sum : mg "sum" = none
  m_list : mg "list" = none
  m_dict : mg "dict" = none
  m_max : mg "max" = none
  m_abs : mg "abs" = none
  m_range : mg "range" = none
  m_ValueError : mg "ValueError" = none
  m_zip : mg "zip" = none
  f_is_number : Addr
  d_is_number : FuncData
  F_is_number : Fun K "is_number" "is_number" s_is_number f_is_number d_is_number
  b_is_number : Binds K d_is_number ["thing"] []
  g_is_number : mg "is_number" = some (.ref f_is_number)
  f_as_one : Addr
  d_as_one : FuncData
  F_as_one : Fun K "as_one" "as_one" s_as_one f_as_one d_as_one
  b_as_one : Binds K d_as_one ["one", "other"] []
  g_as_one : mg "as_one" = some (.ref f_as_one)
  f_Ladder___init__ : Addr
  d_Ladder___init__ : FuncData
  F_Ladder___init__ : Fun K "__init__" "Ladder.__init__" s_Ladder___init__ f_Ladder___init__ d_Ladder___init__
  b_Ladder___init__ : Binds K d_Ladder___init__ ["self", "size"] []
  f_Ladder_size : Addr
  d_Ladder_size : FuncData
  F_Ladder_size : Fun K "size" "Ladder.size" s_Ladder_size f_Ladder_size d_Ladder_size
  b_Ladder_size : Binds K d_Ladder_size ["self"] []
  f_Ladder_loose : Addr
  d_Ladder_loose : FuncData
  F_Ladder_loose : Fun K "loose" "Ladder.loose" s_Ladder_loose f_Ladder_loose d_Ladder_loose
  b_Ladder_loose : Binds K d_Ladder_loose ["self"] []
  f_Ladder_rungs : Addr
  d_Ladder_rungs : FuncData
  F_Ladder_rungs : Fun K "rungs" "Ladder.rungs" s_Ladder_rungs f_Ladder_rungs d_Ladder_rungs
  b_Ladder_rungs : Binds K d_Ladder_rungs ["self"] []
  f_Ladder_fed : Addr
  d_Ladder_fed : FuncData
  F_Ladder_fed : Fun K "fed" "Ladder.fed" s_Ladder_fed f_Ladder_fed d_Ladder_fed
  b_Ladder_fed : Binds K d_Ladder_fed ["self"] []
  f_Ladder_twin : Addr
  d_Ladder_twin : FuncData
  F_Ladder_twin : Fun K "twin" "Ladder.twin" s_Ladder_twin f_Ladder_twin d_Ladder_twin
  b_Ladder_twin : Binds K d_Ladder_twin ["self"] []
  f_Ladder___eq__ : Addr
  d_Ladder___eq__ : FuncData
  F_Ladder___eq__ : Fun K "__eq__" "Ladder.__eq__" s_Ladder___eq__ f_Ladder___eq__ d_Ladder___eq__
  b_Ladder___eq__ : Binds K d_Ladder___eq__ ["self", "other"] []
  f_Ladder_feed : Addr
  d_Ladder_feed : FuncData
  F_Ladder_feed : Fun K "feed" "Ladder.feed" s_Ladder_feed f_Ladder_feed d_Ladder_feed
  b_Ladder_feed : Binds K d_Ladder_feed ["self", "number"] []
  f_Ladder_pour : Addr
  d_Ladder_pour : FuncData
  F_Ladder_pour : Fun K "pour" "Ladder.pour" s_Ladder_pour f_Ladder_pour d_Ladder_pour
  b_Ladder_pour : Binds K d_Ladder_pour ["self", "other"] []
  f_ladder_of : Addr
  d_ladder_of : FuncData
  F_ladder_of : Fun K "ladder_of" "ladder_of" s_ladder_of f_ladder_of d_ladder_of
  b_ladder_of : Binds K d_ladder_of ["size", "numbers"] []
  g_ladder_of : mg "ladder_of" = some (.ref f_ladder_of)
  f_is_fed : Addr
  d_is_fed : FuncData
  F_is_fed : Fun K "is_fed" "is_fed" s_is_fed f_is_fed d_is_fed
  b_is_fed : Binds K d_is_fed ["ladder", "thing"] []
  g_is_fed : mg "is_fed" = some (.ref f_is_fed)
  f__law_begun : Addr
  d__law_begun : FuncData
  F__law_begun : Fun K "_law_begun" "_law_begun" s__law_begun f__law_begun d__law_begun
  b__law_begun : Binds K d__law_begun ["_law_script"] []
  g__law_begun : mg "_law_begun" = some (.ref f__law_begun)
  f__law_draw : Addr
  d__law_draw : FuncData
  F__law_draw : Fun K "_law_draw" "_law_draw" s__law_draw f__law_draw d__law_draw
  b__law_draw : Binds K d__law_draw ["_law_state", "_law_many"] []
  g__law_draw : mg "_law_draw" = some (.ref f__law_draw)
  f__law_number : Addr
  d__law_number : FuncData
  F__law_number : Fun K "_law_number" "_law_number" s__law_number f__law_number d__law_number
  b__law_number : Binds K d__law_number ["_law_state", "_law_way", "_law_base"] []
  g__law_number : mg "_law_number" = some (.ref f__law_number)
  f__law_numbers : Addr
  d__law_numbers : FuncData
  F__law_numbers : Fun K "_law_numbers" "_law_numbers" s__law_numbers f__law_numbers d__law_numbers
  b__law_numbers : Binds K d__law_numbers ["_law_state", "_law_many"] []
  g__law_numbers : mg "_law_numbers" = some (.ref f__law_numbers)
  f__law_joined : Addr
  d__law_joined : FuncData
  F__law_joined : Fun K "_law_joined" "_law_joined" s__law_joined f__law_joined d__law_joined
  b__law_joined : Binds K d__law_joined ["_law_one", "_law_another"] []
  g__law_joined : mg "_law_joined" = some (.ref f__law_joined)
  f__law_with : Addr
  d__law_with : FuncData
  F__law_with : Fun K "_law_with" "_law_with" s__law_with f__law_with d__law_with
  b__law_with : Binds K d__law_with ["_law_left", "_law_wide", "_law_number_here"] []
  g__law_with : mg "_law_with" = some (.ref f__law_with)
  f__law_poured : Addr
  d__law_poured : FuncData
  F__law_poured : Fun K "_law_poured" "_law_poured" s__law_poured f__law_poured d__law_poured
  b__law_poured : Binds K d__law_poured ["_law_one", "_law_another", "_law_wide"] []
  g__law_poured : mg "_law_poured" = some (.ref f__law_poured)
  f__law_alike : Addr
  d__law_alike : FuncData
  F__law_alike : Fun K "_law_alike" "_law_alike" s__law_alike f__law_alike d__law_alike
  b__law_alike : Binds K d__law_alike ["_law_ladder", "_law_left"] []
  g__law_alike : mg "_law_alike" = some (.ref f__law_alike)
  f__law_plain : Addr
  d__law_plain : FuncData
  F__law_plain : Fun K "_law_plain" "_law_plain" s__law_plain f__law_plain d__law_plain
  b__law_plain : Binds K d__law_plain ["_law_ladder"] []
  g__law_plain : mg "_law_plain" = some (.ref f__law_plain)
  f__law_refused : Addr
  d__law_refused : FuncData
  F__law_refused : Fun K "_law_refused" "_law_refused" s__law_refused f__law_refused d__law_refused
  b__law_refused : Binds K d__law_refused ["_law_ladder", "_law_thing"] []
  g__law_refused : mg "_law_refused" = some (.ref f__law_refused)
  f__law_drawn : Addr
  d__law_drawn : FuncData
  F__law_drawn : Fun K "_law_drawn" "_law_drawn" s__law_drawn f__law_drawn d__law_drawn
  b__law_drawn : Binds K d__law_drawn ["_law_state", "_law_wide", "_law_great"] []
  g__law_drawn : mg "_law_drawn" = some (.ref f__law_drawn)
  f__law_apart : Addr
  d__law_apart : FuncData
  F__law_apart : Fun K "_law_apart" "_law_apart" s__law_apart f__law_apart d__law_apart
  b__law_apart : Binds K d__law_apart ["_law_made", "_law_twins", "_law_wide", "_law_extra"] []
  g__law_apart : mg "_law_apart" = some (.ref f__law_apart)
  f_law : Addr
  d_law : FuncData
  F_law : Fun K "law" "law" s_law f_law d_law
  c_Ladder : Addr
  g_Ladder : mg "Ladder" = some (.ref c_Ladder)
  rc_Ladder : LadderC K c_Ladder
  K_Ladder : Mk K c_Ladder f_Ladder___init__
  M_Ladder_size : Meth K c_Ladder "size" f_Ladder_size
  M_Ladder_loose : Meth K c_Ladder "loose" f_Ladder_loose
  M_Ladder_rungs : Meth K c_Ladder "rungs" f_Ladder_rungs
  M_Ladder_fed : Meth K c_Ladder "fed" f_Ladder_fed
  M_Ladder_twin : Meth K c_Ladder "twin" f_Ladder_twin
  M_Ladder___eq__ : Meth K c_Ladder "__eq__" f_Ladder___eq__
  M_Ladder_feed : Meth K c_Ladder "feed" f_Ladder_feed
  M_Ladder_pour : Meth K c_Ladder "pour" f_Ladder_pour
  g_NoKeeper : mg "NoKeeper" = some (.ref (cErr K "NoKeeper"))
  g_NoNumber : mg "NoNumber" = some (.ref (cErr K "NoNumber"))
  g_NoSize : mg "NoSize" = some (.ref (cErr K "NoSize"))
  rc_NoKeeper : BX.ErrC K (cErr K "NoKeeper")
  rc_NoNumber : BX.ErrC K (cErr K "NoNumber")
  rc_NoSize : BX.ErrC K (cErr K "NoSize")
  rf_NoKeeper : Refd K "NoKeeper"
  xe_NoKeeper : PySem.W.exmOne K (.ref (cErr K "NoKeeper")) (.ref (cErr K "NoKeeper")) = some true
  nk_Ladder : NotLd K c_Ladder
  u_GREATEST : Tok
  h_GREATEST : mg "GREATEST" = some (.int 1000000 u_GREATEST)
  km_Ladder_pour_other : KwM K d_Ladder_pour ["self", "other"] ["other"] [0]

section
variable {P : Program} {w : World} {K : Fg} {mg : Str → Option Value} {base : Heap}
theorem Tx.cl_Ladder (T : Tx K mg) : Cls K T.c_Ladder := T.rc_Ladder.i.cl
theorem der_is_number (T : Tx K mg) {cdv : Value} {A : Around} {outer : List Env} {s : Shared} {H : Hp} {E : XK} (hr : Room 0 (A.deeper (envOfC "is_number" (defScope s_is_number) s.heap.objs.size T.f_is_number cdv))) :
    PSs (cxOf CX0 P w K mg base n_is_number "is_number" (defScope s_is_number) T.f_is_number cdv A outer s H E).nox (defBody s_is_number) (t_is_number K) :=
  have nd := sc_is_number.nd
  (pss_one (ps_ret (pe_and (pe_callB call_isi (by rfl) T.m_isinstance (by decide +kernel) (pa_cons (pv 0) (pa_cons (pe_bltn (by rfl) T.m_int (by decide +kernel) rfl) pa_nil))) (pe_and (pe_not (pe_callB call_isi (by rfl) T.m_isinstance (by decide +kernel) (pa_cons (pv 0) (pa_cons (pe_bltn (by rfl) T.m_bool (by decide +kernel) rfl) pa_nil)))) (pe_one (pe_chain op_le op_le pe_int (pv 0) (pe_glob (by rfl) T.h_GREATEST ⟨_, rfl⟩)))))))
theorem ok_is_number (T : Tx K mg) : FnOk P w K mg base CX0 1 T.f_is_number T.d_is_number ["thing"] (sp_is_number K) :=
  T.F_is_number.ok sc_is_number (fun vs H Q E h => len_is_number h) (fun cdv A outer s H vs Q E hr h => ⟨t_is_number K, der_is_number T hr, rd_is_number h⟩)
theorem der_as_one (T : Tx K mg) {cdv : Value} {A : Around} {outer : List Env} {s : Shared} {H : Hp} {E : XK} (hr : Room 0 (A.deeper (envOfC "as_one" (defScope s_as_one) s.heap.objs.size T.f_as_one cdv))) :
    PSs (cxOf CX0 P w K mg base n_as_one "as_one" (defScope s_as_one) T.f_as_one cdv A outer s H E).nox (defBody s_as_one) (t_as_one K) :=
  have nd := sc_as_one.nd
  (pss_one (ps_ret (pe_callTy cr_tupleO (by rfl) T.m_tuple (by decide +kernel) (pa_cons (pe_lstStep (pe_callB cr_sortedIT (by rfl) T.m_sorted (by decide +kernel) (pa_cons (pe_op op_catA (pv 0) (pv 1)) pa_nil)) BY.pc_pos BY.pc_none BY.pc_pos (by decide)) pa_nil))))
theorem ok_as_one (T : Tx K mg) : FnOk P w K mg base CX0 1 T.f_as_one T.d_as_one ["one", "other"] (sp_as_one K) :=
  T.F_as_one.ok sc_as_one (fun vs H Q E h => len_as_one h) (fun cdv A outer s H vs Q E hr h => ⟨t_as_one K, der_as_one T hr, rd_as_one h⟩)
theorem der_Ladder___init__ (T : Tx K mg) {cdv : Value} {A : Around} {outer : List Env} {s : Shared} {H : Hp} {E : XK} (hr : Room 0 (A.deeper (envOfC "Ladder.__init__" (defScope s_Ladder___init__) s.heap.objs.size T.f_Ladder___init__ cdv))) :
    PSs (cxOf (L2.CX P w) P w K mg base n_Ladder___init__ "Ladder.__init__" (defScope s_Ladder___init__) T.f_Ladder___init__ cdv A outer s H E) (defBody s_Ladder___init__) (t_Ladder___init__ K T.c_Ladder E) :=
  have nd := sc_Ladder___init__.nd
  (pss_cons (ps_if (PW.pt (pw_or (pt_not (pt_val (pe_callB call_isi (by rfl) T.m_isinstance (by decide +kernel) (pa_cons (pv 1) (pa_cons (pe_bltn (by rfl) T.m_int (by decide +kernel) rfl) pa_nil))))) (pw_or (pt_val (pe_callB call_isi (by rfl) T.m_isinstance (by decide +kernel) (pa_cons (pv 1) (pa_cons (pe_bltn (by rfl) T.m_bool (by decide +kernel) rfl) pa_nil)))) (pw_or1 (pt_not (pt_chain op_le op_le pe_int (pv 1) pe_int)))))) (pss_one (BX.ps_raiseO T.rc_NoSize T.g_NoSize rfl rfl rfl rfl rfl (by rfl))) pss_nil)
  (pss_cons (ps_fld (pv 0) (pv 1) rfl)
  (pss_cons (ps_fld (pv 0) (pe_lst pa_nil) rfl)
  (pss_one (ps_fld (pv 0) pe_dnewK rfl)))))
theorem ok_Ladder___init__ (T : Tx K mg) : FnOk P w K mg base (L2.CX P w) 1 T.f_Ladder___init__ T.d_Ladder___init__ ["self", "size"] (sp_Ladder___init__ K T.c_Ladder) :=
  T.F_Ladder___init__.okX sc_Ladder___init__ (fun vs H Q E h => len_Ladder___init__ h) (fun cdv A outer s H vs Q E hr h => ⟨t_Ladder___init__ K T.c_Ladder E, der_Ladder___init__ T hr, rd_Ladder___init__ T.rc_Ladder h⟩)
theorem der_Ladder_size (T : Tx K mg) {cdv : Value} {A : Around} {outer : List Env} {s : Shared} {H : Hp} {E : XK} (hr : Room 0 (A.deeper (envOfC "Ladder.size" (defScope s_Ladder_size) s.heap.objs.size T.f_Ladder_size cdv))) :
    PSs (cxOf CX0 P w K mg base n_Ladder_size "Ladder.size" (defScope s_Ladder_size) T.f_Ladder_size cdv A outer s H E).nox (defBody s_Ladder_size) (t_Ladder_size K T.c_Ladder) :=
  have nd := sc_Ladder_size.nd
  (pss_one (ps_ret (pe_fld (pv 0) rfl)))
theorem ok_Ladder_size (T : Tx K mg) : FnOk P w K mg base CX0 1 T.f_Ladder_size T.d_Ladder_size ["self"] (sp_Ladder_size K T.c_Ladder) :=
  T.F_Ladder_size.ok sc_Ladder_size (fun vs H Q E h => len_Ladder_size h) (fun cdv A outer s H vs Q E hr h => ⟨t_Ladder_size K T.c_Ladder, der_Ladder_size T hr, rd_Ladder_size T.rc_Ladder h⟩)
theorem der_Ladder_loose (T : Tx K mg) {cdv : Value} {A : Around} {outer : List Env} {s : Shared} {H : Hp} {E : XK} (hr : Room 0 (A.deeper (envOfC "Ladder.loose" (defScope s_Ladder_loose) s.heap.objs.size T.f_Ladder_loose cdv))) :
    PSs (cxOf CX0 P w K mg base n_Ladder_loose "Ladder.loose" (defScope s_Ladder_loose) T.f_Ladder_loose cdv A outer s H E).nox (defBody s_Ladder_loose) (t_Ladder_loose K T.c_Ladder) :=
  have nd := sc_Ladder_loose.nd
  (pss_one (ps_ret (pe_callTy cr_tupleO (by rfl) T.m_tuple (by decide +kernel) (pa_cons (pe_callB cr_sortedI (by rfl) T.m_sorted (by decide +kernel) (pa_cons (pe_fld (pv 0) rfl) pa_nil)) pa_nil))))
theorem ok_Ladder_loose (T : Tx K mg) : FnOk P w K mg base CX0 1 T.f_Ladder_loose T.d_Ladder_loose ["self"] (sp_Ladder_loose K T.c_Ladder) :=
  T.F_Ladder_loose.ok sc_Ladder_loose (fun vs H Q E h => len_Ladder_loose h) (fun cdv A outer s H vs Q E hr h => ⟨t_Ladder_loose K T.c_Ladder, der_Ladder_loose T hr, rd_Ladder_loose T.rc_Ladder h⟩)
theorem der_Ladder_rungs (T : Tx K mg) {cdv : Value} {A : Around} {outer : List Env} {s : Shared} {H : Hp} {E : XK} (hr : Room 0 (A.deeper (envOfC "Ladder.rungs" (defScope s_Ladder_rungs) s.heap.objs.size T.f_Ladder_rungs cdv))) :
    PSs (cxOf CX0 P w K mg base n_Ladder_rungs "Ladder.rungs" (defScope s_Ladder_rungs) T.f_Ladder_rungs cdv A outer s H E).nox (defBody s_Ladder_rungs) (t_Ladder_rungs K T.c_Ladder) :=
  have nd := sc_Ladder_rungs.nd
  (pss_one (ps_ret (pe_dc (own := [("height", 1)]) rfl nd (pi_list (pe_callB cr_sortedDI (by rfl) T.m_sorted (by decide +kernel) (pa_cons (pe_fld (pv 0) rfl) pa_nil))) (blkOk_by (own := [("height", 1)]) (N := n_Ladder_rungs) (sc := defScope s_Ladder_rungs) (by decide +kernel)) (fun _ _ _ _ _ => (pg_name (i := 1) nd rfl (by first | exact Or.inl rfl | exact Or.inr rfl))) (fun _ _ _ _ _ => pts_nil) (fun _ _ _ _ _ => (pv 1)) (fun _ _ _ _ _ => (pe_dget (hu_of hr) (pe_fld (pv 0) rfl) (pv 1) (fun _ _ => rfl))))))
theorem ok_Ladder_rungs (T : Tx K mg) : FnOk P w K mg base CX0 1 T.f_Ladder_rungs T.d_Ladder_rungs ["self"] (sp_Ladder_rungs K T.c_Ladder) :=
  T.F_Ladder_rungs.ok sc_Ladder_rungs (fun vs H Q E h => len_Ladder_rungs h) (fun cdv A outer s H vs Q E hr h => ⟨t_Ladder_rungs K T.c_Ladder, der_Ladder_rungs T hr, rd_Ladder_rungs T.rc_Ladder h⟩)
theorem der_Ladder_fed (T : Tx K mg) {cdv : Value} {A : Around} {outer : List Env} {s : Shared} {H : Hp} {E : XK} (hr : Room 0 (A.deeper (envOfC "Ladder.fed" (defScope s_Ladder_fed) s.heap.objs.size T.f_Ladder_fed cdv))) :
    PSs (cxOf CX0 P w K mg base n_Ladder_fed "Ladder.fed" (defScope s_Ladder_fed) T.f_Ladder_fed cdv A outer s H E).nox (defBody s_Ladder_fed) (t_Ladder_fed K T.c_Ladder) :=
  have nd := sc_Ladder_fed.nd
  (pss_one (ps_ret (pe_op op_add (pe_callB cr_len (by rfl) T.m_len (by decide +kernel) (pa_cons (pe_fld (pv 0) rfl) pa_nil)) (pe_callB (cr_sum rfl) (by rfl) T.m_sum (by decide +kernel) (pa_cons (pe_lock (pe_lc (own := [("height", 1)]) rfl nd (pi_keys (pe_fld (pv 0) rfl)) (blkOk_by (own := [("height", 1)]) (N := n_Ladder_fed) (sc := defScope s_Ladder_fed) (by decide +kernel)) (fun _ _ _ _ _ => (pg_name (i := 1) nd rfl (by first | exact Or.inl rfl | exact Or.inr rfl))) (fun _ _ _ _ _ => pts_nil) (fun _ _ _ _ _ => (pe_op op_shl (pe_fld (pv 0) rfl) (pv 1))))) pa_nil)))))
theorem ok_Ladder_fed (T : Tx K mg) : FnOk P w K mg base CX0 1 T.f_Ladder_fed T.d_Ladder_fed ["self"] (sp_Ladder_fed K T.c_Ladder) :=
  T.F_Ladder_fed.ok sc_Ladder_fed (fun vs H Q E h => len_Ladder_fed h) (fun cdv A outer s H vs Q E hr h => ⟨t_Ladder_fed K T.c_Ladder, der_Ladder_fed T hr, rd_Ladder_fed T.rc_Ladder h⟩)
theorem der_Ladder_twin (T : Tx K mg) {cdv : Value} {A : Around} {outer : List Env} {s : Shared} {H : Hp} {E : XK} (hr : Room 2 (A.deeper (envOfC "Ladder.twin" (defScope s_Ladder_twin) s.heap.objs.size T.f_Ladder_twin cdv))) :
    PSs (cxOf CX0 P w K mg base n_Ladder_twin "Ladder.twin" (defScope s_Ladder_twin) T.f_Ladder_twin cdv A outer s H E).nox (defBody s_Ladder_twin) (t_Ladder_twin K T.c_Ladder) :=
  have nd := sc_Ladder_twin.nd
  (pss_cons (ps_set (i := 1) nd rfl (Or.inl rfl) (pe_make T.K_Ladder (ok_Ladder___init__ T) (hr.mono (by decide)) (by rfl) T.g_Ladder T.b_Ladder___init__ .nil passL (pa_cons (pe_fld (pv 0) rfl) pa_nil)))
  (pss_cons (ps_fld (pv 1) (pe_callTy cr_listO (by rfl) T.m_list (by decide +kernel) (pa_cons (pe_fld (pv 0) rfl) pa_nil)) rfl)
  (pss_cons (ps_fld (pv 1) (pe_callTy cr_dictC (by rfl) T.m_dict (by decide +kernel) (pa_cons (pe_fld (pv 0) rfl) pa_nil)) rfl)
  (pss_one (ps_ret (pv 1))))))
theorem ok_Ladder_twin (T : Tx K mg) : FnOk P w K mg base CX0 3 T.f_Ladder_twin T.d_Ladder_twin ["self"] (sp_Ladder_twin K T.c_Ladder) :=
  T.F_Ladder_twin.ok sc_Ladder_twin (fun vs H Q E h => len_Ladder_twin h) (fun cdv A outer s H vs Q E hr h => ⟨t_Ladder_twin K T.c_Ladder, der_Ladder_twin T hr, rd_Ladder_twin T.rc_Ladder h⟩)
theorem der_Ladder___eq__ (T : Tx K mg) {cdv : Value} {A : Around} {outer : List Env} {s : Shared} {H : Hp} {E : XK} (hr : Room 1 (A.deeper (envOfC "Ladder.__eq__" (defScope s_Ladder___eq__) s.heap.objs.size T.f_Ladder___eq__ cdv))) :
    PSs (cxOf CX0 P w K mg base n_Ladder___eq__ "Ladder.__eq__" (defScope s_Ladder___eq__) T.f_Ladder___eq__ cdv A outer s H E).nox (defBody s_Ladder___eq__) (t_Ladder___eq__ K T.c_Ladder) :=
  have nd := sc_Ladder___eq__.nd
  (pss_cons (ps_if (pt_not (pt_val (pe_callB call_isi (by rfl) T.m_isinstance (by decide +kernel) (pa_cons (pv 1) (pa_cons (pe_glob (by rfl) T.g_Ladder rfl) pa_nil))))) (pss_one (ps_ret pe_bl)) pss_nil)
  (pss_one (ps_ret (pe_cmpR (op_eqQ hr.units) (pe_tup (pa_cons (pe_fld (pv 0) rfl) (pa_cons (pe_meth0 (pv 0) T.cl_Ladder T.M_Ladder_loose (ok_Ladder_loose T) (hr.mono (by decide)) T.b_Ladder_loose .nil pass0) (pa_cons (pe_fld (pv 0) rfl) pa_nil)))) (pe_tup (pa_cons (pe_fld (pv 1) rfl) (pa_cons (pe_meth0 (pv 1) T.cl_Ladder T.M_Ladder_loose (ok_Ladder_loose T) (hr.mono (by decide)) T.b_Ladder_loose .nil pass0) (pa_cons (pe_fld (pv 1) rfl) pa_nil)))) (nomark _)))))
theorem ok_Ladder___eq__ (T : Tx K mg) : FnOk P w K mg base CX0 2 T.f_Ladder___eq__ T.d_Ladder___eq__ ["self", "other"] (sp_Ladder___eq__ K T.c_Ladder) :=
  T.F_Ladder___eq__.ok sc_Ladder___eq__ (fun vs H Q E h => len_Ladder___eq__ h) (fun cdv A outer s H vs Q E hr h => ⟨t_Ladder___eq__ K T.c_Ladder, der_Ladder___eq__ T hr, rd_Ladder___eq__ T.rc_Ladder h⟩)
theorem der_Ladder_feed (T : Tx K mg) {cdv : Value} {A : Around} {outer : List Env} {s : Shared} {H : Hp} {E : XK} (hr : Room 1 (A.deeper (envOfC "Ladder.feed" (defScope s_Ladder_feed) s.heap.objs.size T.f_Ladder_feed cdv))) :
    PSs (cxOf (L2.CX P w) P w K mg base n_Ladder_feed "Ladder.feed" (defScope s_Ladder_feed) T.f_Ladder_feed cdv A outer s H E) (defBody s_Ladder_feed) (t_Ladder_feed K T.c_Ladder E) :=
  have nd := sc_Ladder_feed.nd
  (pss_cons (ps_if (pt_not (pt_val (pe_call (ok_is_number T) (hr.mono (by decide)) (by rfl) T.g_is_number T.F_is_number.kp T.b_is_number .nil pass0 (pa_cons (pv 1) pa_nil)))) (pss_one (BX.ps_raiseO T.rc_NoNumber T.g_NoNumber rfl rfl rfl rfl rfl (by rfl))) pss_nil)
  (pss_cons (ps_expr (pe_bm PySem.F.plainAttrs_list PySem.F.slot_list_append PySem.F.type_list_append mt_append (pe_fld (pv 0) rfl) (pa_cons (pv 1) pa_nil)))
  (pss_one (ps_if (pt_cmpR op_eq (pe_callB cr_len (by rfl) T.m_len (by decide +kernel) (pa_cons (pe_fld (pv 0) rfl) pa_nil)) (pe_fld (pv 0) rfl) (nomark _)) (pss_cons (ps_par (i := 2) (j := 3) rfl nd rfl rfl (by decide) rfl rfl (pa_cons pe_int (pa_cons (pe_meth0 (pv 0) T.cl_Ladder T.M_Ladder_loose (ok_Ladder_loose T) (hr.mono (by decide)) T.b_Ladder_loose .nil pass0) pa_nil)) (by rfl))
  (pss_cons (ps_fld (pv 0) (pe_lst pa_nil) rfl)
  (pss_cons (ps_while (passes_of rfl) (pt_cmp (pc_din (hu_of hr) (pv 2) (pe_fld (pv 0) rfl)))
  (pss_cons (ps_set (i := 3) nd rfl (Or.inl rfl) (pe_call (ok_as_one T) (hr.mono (by decide)) (by rfl) T.g_as_one T.F_as_one.kp T.b_as_one .nil pass0 (pa_cons (pe_dpop1 (pe_fld (pv 0) rfl) (pv 2) ⟨rfl, rfl, rfl, rfl⟩) (pa_cons (pv 3) pa_nil))))
  (pss_one (ps_aug (i := 2) nd rfl (Or.inl rfl) pe_int ip_add))))
  (pss_one (ps_dput (hu_of hr) (pe_fld (pv 0) rfl) (pv 2) (pv 3) rfl))))) pss_nil))))
theorem ok_Ladder_feed (T : Tx K mg) : FnOk P w K mg base (L2.CX P w) 2 T.f_Ladder_feed T.d_Ladder_feed ["self", "number"] (sp_Ladder_feed K T.c_Ladder) :=
  T.F_Ladder_feed.okX sc_Ladder_feed (fun vs H Q E h => len_Ladder_feed h) (fun cdv A outer s H vs Q E hr h => ⟨t_Ladder_feed K T.c_Ladder E, der_Ladder_feed T hr, rd_Ladder_feed T.rc_Ladder h⟩)
theorem der_Ladder_pour (T : Tx K mg) {cdv : Value} {A : Around} {outer : List Env} {s : Shared} {H : Hp} {E : XK} (hr : Room 2 (A.deeper (envOfC "Ladder.pour" (defScope s_Ladder_pour) s.heap.objs.size T.f_Ladder_pour cdv))) :
    PSs (cxOf (L2.CX P w) P w K mg base n_Ladder_pour "Ladder.pour" (defScope s_Ladder_pour) T.f_Ladder_pour cdv A outer s H E) (defBody s_Ladder_pour) (t_Ladder_pour K T.c_Ladder E) :=
  have nd := sc_Ladder_pour.nd
  (pss_cons (ps_if (PW.pt (pw_or (pt_not (pt_val (pe_callB call_isi (by rfl) T.m_isinstance (by decide +kernel) (pa_cons (pv 1) (pa_cons (pe_glob (by rfl) T.g_Ladder rfl) pa_nil))))) (pw_or1 (pt_cmpR op_ne (pe_meth0 (pv 1) T.cl_Ladder T.M_Ladder_size (ok_Ladder_size T) (hr.mono (by decide)) T.b_Ladder_size .nil pass0) (pe_fld (pv 0) rfl) (nomark _))))) (pss_one (BX.ps_raiseO T.rc_NoKeeper T.g_NoKeeper rfl rfl rfl rfl rfl (by rfl))) pss_nil)
  (pss_cons (ps_par (i := 2) (j := 3) rfl nd rfl rfl (by decide) rfl rfl (pa_cons (pe_meth0 (pv 1) T.cl_Ladder T.M_Ladder_rungs (ok_Ladder_rungs T) (hr.mono (by decide)) T.b_Ladder_rungs .nil pass0) (pa_cons (pe_meth0 (pv 1) T.cl_Ladder T.M_Ladder_loose (ok_Ladder_loose T) (hr.mono (by decide)) T.b_Ladder_loose .nil pass0) pa_nil)) (by rfl))
  (pss_cons (ps_asg (pe_tup (pa_cons pe_dnewK (pa_cons (pe_lst pa_nil) (pa_cons pe_int pa_nil)))) (pg_tup rfl (pgs_cons (pg_name (i := 4) nd rfl (by first | exact Or.inl rfl | exact Or.inr rfl)) (pgs_cons (pg_name (i := 5) nd rfl (by first | exact Or.inl rfl | exact Or.inr rfl)) (pgs_cons (pg_name (i := 6) nd rfl (by first | exact Or.inl rfl | exact Or.inr rfl)) pgs_nil)))))
  (pss_cons (ps_set (i := 7) nd rfl (Or.inl rfl) (pe_callB (cr_max rfl) (by rfl) T.m_max (by decide +kernel) (pa_cons (pe_op op_cat (pe_op op_cat (pe_callTy (call_list_dK rfl) (by rfl) T.m_list (by decide +kernel) (pa_cons (pe_fld (pv 0) rfl) pa_nil)) (pe_callTy (call_list_dK rfl) (by rfl) T.m_list (by decide +kernel) (pa_cons (pv 2) pa_nil))) (pe_lst (pa_cons (pe_un un_neg pe_int) pa_nil))) pa_nil)))
  (pss_cons (ps_while (passes_of rfl) (PW.pt (pw_or (pt_cmpR op_le (pv 6) (pv 7) (nomark _)) (pw_or1 (pt_cmpR (op_neT hr.units) (pv 5) (pe_lst pa_nil) (nomark _)))))
  (pss_cons (ps_set (i := 8) nd rfl (Or.inl rfl) (pe_op op_cat (pe_lc (own := [("row", 9)]) rfl nd (pi_tup (pe_tup (pa_cons (pe_fld (pv 0) rfl) (pa_cons (pv 2) pa_nil)))) (blkOk_by (own := [("row", 9)]) (N := n_Ladder_pour) (sc := defScope s_Ladder_pour) (by decide +kernel)) (fun _ _ _ _ _ => (pg_name (i := 9) nd rfl (by first | exact Or.inl rfl | exact Or.inr rfl))) (fun _ _ _ _ _ => (pts_one (pt_cmp (pc_din (hu_of hr) (pv 6) (pv 9))))) (fun _ _ _ _ _ => (pe_dget (hu_of hr) (pv 9) (pv 6) (fun _ _ => rfl)))) (pv 5)))
  (pss_cons (ps_set (i := 5) nd rfl (Or.inl rfl) (pe_ifExp (pt_cmpR op_gt (pe_callB cr_len (by rfl) T.m_len (by decide +kernel) (pa_cons (pv 8) pa_nil)) pe_int (nomark _)) (pe_lst (pa_cons (pe_call (ok_as_one T) (hr.mono (by decide)) (by rfl) T.g_as_one T.F_as_one.kp T.b_as_one .nil pass0 (pa_cons (pe_ix ix_list (pv 8) pe_int (fun _ _ => rfl)) (pa_cons (pe_ix ix_list (pv 8) pe_int (fun _ _ => rfl)) pa_nil))) pa_nil)) (pe_lst pa_nil)))
  (pss_cons (ps_set (i := 10) nd rfl (Or.inl rfl) (pe_ifExp (pt_cmpR op_gt (pe_callB cr_len (by rfl) T.m_len (by decide +kernel) (pa_cons (pv 8) pa_nil)) pe_int (nomark _)) (pe_slice sl_list (pv 8) (po_some pe_int) po_none) (pv 8)))
  (pss_cons (ps_if (pt_cmpR (op_neT hr.units) (pv 10) (pe_lst pa_nil) (nomark _)) (pss_one (ps_dput (hu_of hr) (pv 4) (pv 6) (pe_ix ix_list (pv 10) pe_int (fun _ _ => rfl)) rfl)) pss_nil)
  (pss_one (ps_aug (i := 6) nd rfl (Or.inr rfl) pe_int ip_add)))))))
  (pss_cons (ps_fld (pv 0) (pv 4) rfl)
  (pss_one (ps_for (passes_of rfl) rfl (pi_tup (pv 3)) (pg_name (i := 11) nd rfl (by first | exact Or.inl rfl | exact Or.inr rfl))
  (pss_one (ps_expr (pe_meth (pv 0) T.cl_Ladder T.M_Ladder_feed (ok_Ladder_feed T) (hr.mono (by decide)) T.b_Ladder_feed .nil (passE rfl rfl rfl rfl) (pa_cons (pv 11) pa_nil))))))))))))
theorem ok_Ladder_pour (T : Tx K mg) : FnOk P w K mg base (L2.CX P w) 3 T.f_Ladder_pour T.d_Ladder_pour ["self", "other"] (sp_Ladder_pour K T.c_Ladder) :=
  T.F_Ladder_pour.okX sc_Ladder_pour (fun vs H Q E h => len_Ladder_pour h) (fun cdv A outer s H vs Q E hr h => ⟨t_Ladder_pour K T.c_Ladder E, der_Ladder_pour T hr, rd_Ladder_pour T.rc_Ladder h⟩)
theorem der_ladder_of (T : Tx K mg) {cdv : Value} {A : Around} {outer : List Env} {s : Shared} {H : Hp} {E : XK} (hr : Room 2 (A.deeper (envOfC "ladder_of" (defScope s_ladder_of) s.heap.objs.size T.f_ladder_of cdv))) :
    PSs (cxOf (L2.CX P w) P w K mg base n_ladder_of "ladder_of" (defScope s_ladder_of) T.f_ladder_of cdv A outer s H E) (defBody s_ladder_of) (t_ladder_of K T.c_Ladder E) :=
  have nd := sc_ladder_of.nd
  (pss_cons (ps_set (i := 2) nd rfl (Or.inl rfl) (pe_make T.K_Ladder (ok_Ladder___init__ T) (hr.mono (by decide)) (by rfl) T.g_Ladder T.b_Ladder___init__ .nil (passE rfl rfl rfl rfl) (pa_cons (pv 0) pa_nil)))
  (pss_cons (ps_if (PW.pt (pw_or (pt_not (pt_val (pe_callB call_isiT (by rfl) T.m_isinstance (by decide +kernel) (pa_cons (pv 1) (pa_cons (pe_tup (pa_cons (pe_bltn (by rfl) T.m_list (by decide +kernel) rfl) (pa_cons (pe_bltn (by rfl) T.m_tuple (by decide +kernel) rfl) pa_nil))) pa_nil))))) (pw_or1 (pt_cmpR (op_neW hr.units) (pe_lc (own := [("number", 3)]) rfl nd (BY.pi_seq (pv 1)) (blkOk_by (own := [("number", 3)]) (N := n_ladder_of) (sc := defScope s_ladder_of) (by decide +kernel)) (fun _ _ _ _ _ => (pg_name (i := 3) nd rfl (by first | exact Or.inl rfl | exact Or.inr rfl))) (fun _ _ _ _ _ => (pts_one (pt_not (pt_val (pe_call (ok_is_number T) (hr.mono (by decide)) (by rfl) T.g_is_number T.F_is_number.kp T.b_is_number .nil pass0 (pa_cons (pv 3) pa_nil)))))) (fun _ _ _ _ _ => (pv 3))) (pe_lst pa_nil) (nomark _))))) (pss_one (BX.ps_raiseO T.rc_NoNumber T.g_NoNumber rfl rfl rfl rfl rfl (by rfl))) pss_nil)
  (pss_cons (ps_for (passes_of rfl) rfl (BY.pi_seq (pv 1)) (pg_name (i := 3) nd rfl (by first | exact Or.inl rfl | exact Or.inr rfl))
  (pss_one (ps_expr (pe_meth (pv 2) T.cl_Ladder T.M_Ladder_feed (ok_Ladder_feed T) (hr.mono (by decide)) T.b_Ladder_feed .nil (passE rfl rfl rfl rfl) (pa_cons (pv 3) pa_nil)))))
  (pss_one (ps_ret (pv 2))))))
theorem ok_ladder_of (T : Tx K mg) : FnOk P w K mg base (L2.CX P w) 3 T.f_ladder_of T.d_ladder_of ["size", "numbers"] (sp_ladder_of K T.c_Ladder) :=
  T.F_ladder_of.okX sc_ladder_of (fun vs H Q E h => len_ladder_of h) (fun cdv A outer s H vs Q E hr h => ⟨t_ladder_of K T.c_Ladder E, der_ladder_of T hr, rd_ladder_of T.rc_Ladder h⟩)
theorem der_is_fed (T : Tx K mg) {cdv : Value} {A : Around} {outer : List Env} {s : Shared} {H : Hp} {E : XK} (hr : Room 3 (A.deeper (envOfC "is_fed" (defScope s_is_fed) s.heap.objs.size T.f_is_fed cdv))) :
    PSs (cxOf CX0 P w K mg base n_is_fed "is_fed" (defScope s_is_fed) T.f_is_fed cdv A outer s H E).nox (defBody s_is_fed) (t_is_fed K T.c_Ladder) :=
  have nd := sc_is_fed.nd
  (pss_cons (ps_if (PW.pt (pw_or (pt_not (pt_val (pe_callB call_isi (by rfl) T.m_isinstance (by decide +kernel) (pa_cons (pv 1) (pa_cons (pe_bltn (by rfl) T.m_tuple (by decide +kernel) rfl) pa_nil))))) (pw_or1 (pt_cmpR (op_neW hr.units) (pe_lc (own := [("number", 2)]) rfl nd (BY.pi_seq (pv 1)) (blkOk_by (own := [("number", 2)]) (N := n_is_fed) (sc := defScope s_is_fed) (by decide +kernel)) (fun _ _ _ _ _ => (pg_name (i := 2) nd rfl (by first | exact Or.inl rfl | exact Or.inr rfl))) (fun _ _ _ _ _ => (pts_one (pt_not (pt_val (pe_call (ok_is_number T) (hr.mono (by decide)) (by rfl) T.g_is_number T.F_is_number.kp T.b_is_number .nil pass0 (pa_cons (pv 2) pa_nil)))))) (fun _ _ _ _ _ => (pv 2))) (pe_lst pa_nil) (nomark _))))) (pss_one (ps_ret pe_bl)) pss_nil)
  (pss_one (ps_ret (pe_cmpR (op_insEq (ok_Ladder___eq__ T) (hr.mono (by decide)) T.M_Ladder___eq__ T.b_Ladder___eq__ pass0) (pe_call (ok_ladder_of T) (hr.mono (by decide)) (by rfl) T.g_ladder_of T.F_ladder_of.kp T.b_ladder_of .nil passL (pa_cons (pe_meth0 (pv 0) T.cl_Ladder T.M_Ladder_size (ok_Ladder_size T) (hr.mono (by decide)) T.b_Ladder_size .nil pass0) (pa_cons (pv 1) pa_nil))) (pv 0) (nomark _)))))
theorem ok_is_fed (T : Tx K mg) : FnOk P w K mg base CX0 4 T.f_is_fed T.d_is_fed ["ladder", "thing"] (sp_is_fed K T.c_Ladder) :=
  T.F_is_fed.ok sc_is_fed (fun vs H Q E h => len_is_fed h) (fun cdv A outer s H vs Q E hr h => ⟨t_is_fed K T.c_Ladder, der_is_fed T hr, rd_is_fed T.rc_Ladder h⟩)
theorem der__law_begun (T : Tx K mg) {cdv : Value} {A : Around} {outer : List Env} {s : Shared} {H : Hp} {E : XK} (hr : Room 0 (A.deeper (envOfC "_law_begun" (defScope s__law_begun) s.heap.objs.size T.f__law_begun cdv))) :
    PSs (cxOf CX0 P w K mg base n__law_begun "_law_begun" (defScope s__law_begun) T.f__law_begun cdv A outer s H E).nox (defBody s__law_begun) (t__law_begun K) :=
  have nd := sc__law_begun.nd
  (pss_one (ps_ret (pe_disp (pps_cons pe_str (pe_lc (own := [("_law_cell", 1)]) rfl nd (pi_list (pe_slice sl_list (pv 0) po_none (po_some pe_int))) (blkOk_by (own := [("_law_cell", 1)]) (N := n__law_begun) (sc := defScope s__law_begun) (by decide +kernel)) (fun _ _ _ _ _ => (pg_name (i := 1) nd rfl (by first | exact Or.inl rfl | exact Or.inr rfl))) (fun _ _ _ _ _ => pts_nil) (fun _ _ _ _ _ => (pe_callB cr_abs (by rfl) T.m_abs (by decide +kernel) (pa_cons (pv 1) pa_nil)))) (pps_cons pe_str pe_int (pps_cons pe_str pe_int (pps_cons pe_str pe_int (pps_cons pe_str (pe_op op_add pe_int (pe_callB cr_len (by rfl) T.m_len (by decide +kernel) (pa_cons (pv 0) pa_nil))) pps_nil))))) (by rfl) (by rfl) (fun z => by cases z) (by decide))))
theorem ok__law_begun (T : Tx K mg) : FnOk P w K mg base CX0 1 T.f__law_begun T.d__law_begun ["_law_script"] (sp__law_begun K) :=
  T.F__law_begun.ok sc__law_begun (fun vs H Q E h => len__law_begun h) (fun cdv A outer s H vs Q E hr h => ⟨t__law_begun K, der__law_begun T hr, rd__law_begun h⟩)
theorem der__law_draw (T : Tx K mg) {cdv : Value} {A : Around} {outer : List Env} {s : Shared} {H : Hp} {E : XK} (hr : Room 0 (A.deeper (envOfC "_law_draw" (defScope s__law_draw) s.heap.objs.size T.f__law_draw cdv))) :
    PSs (cxOf CX0 P w K mg base n__law_draw "_law_draw" (defScope s__law_draw) T.f__law_draw cdv A outer s H E).nox (defBody s__law_draw) (t__law_draw K) :=
  have nd := sc__law_draw.nd
  (pss_cons (ps_set (i := 2) nd rfl (Or.inl rfl) (pe_dget (hu_of hr) (pv 0) pe_str (fun _ _ => rfl)))
  (pss_cons (ps_while PassesOwn.never (PW.pt (pw_and (pt_cmpR op_lt (pe_dget (hu_of hr) (pv 0) pe_str (fun _ _ => rfl)) pe_int (nomark _)) (pw_and1 (pt_cmpR op_lt (pe_dget (hu_of hr) (pv 0) pe_str (fun _ _ => rfl)) (pe_callB cr_len (by rfl) T.m_len (by decide +kernel) (pa_cons (pv 2) pa_nil)) (nomark _)))))
  (pss_cons (ps_if (pt_cmpR op_ge (pe_ix ix_list (pv 2) (pe_dget (hu_of hr) (pv 0) pe_str (fun _ _ => rfl)) (fun _ _ => rfl)) (pe_op op_pow pe_int pe_int) (nomark _)) (pss_one (ps_dput (hu_of hr) (pv 0) pe_str (pe_ix ix_list (pv 2) (pe_dget (hu_of hr) (pv 0) pe_str (fun _ _ => rfl)) (fun _ _ => rfl)) rfl)) pss_nil)
  (pss_one (ps_dput (hu_of hr) (pv 0) pe_str (pe_op op_add (pe_dget (hu_of hr) (pv 0) pe_str (fun _ _ => rfl)) pe_int) rfl))))
  (pss_cons (ps_if (pt_cmpR op_gt (pe_dget (hu_of hr) (pv 0) pe_str (fun _ _ => rfl)) pe_int (nomark _)) (pss_cons (ps_set (i := 3) nd rfl (Or.inl rfl) (pe_op op_mod (pe_dget (hu_of hr) (pv 0) pe_str (fun _ _ => rfl)) (pv 1)))
  (pss_cons (ps_dput (hu_of hr) (pv 0) pe_str (pe_op op_fdiv (pe_dget (hu_of hr) (pv 0) pe_str (fun _ _ => rfl)) (pv 1)) rfl)
  (pss_one (ps_ret (pv 3))))) pss_nil)
  (pss_cons (ps_set (i := 4) nd rfl (Or.inl rfl) (pe_ifExp (pt_cmpR (op_neT hr.units) (pv 2) (pe_lst pa_nil) (nomark _)) (pe_ix ix_list (pv 2) (pe_op op_mod (pe_dget (hu_of hr) (pv 0) pe_str (fun _ _ => rfl)) (pe_callB cr_len (by rfl) T.m_len (by decide +kernel) (pa_cons (pv 2) pa_nil))) (fun _ _ => rfl)) pe_int))
  (pss_cons (ps_dput (hu_of hr) (pv 0) pe_str (pe_op op_add (pe_dget (hu_of hr) (pv 0) pe_str (fun _ _ => rfl)) pe_int) rfl)
  (pss_cons (ps_dput (hu_of hr) (pv 0) pe_str (pe_op op_mod (pe_op op_add (pe_op op_add (pe_op op_mul (pe_dget (hu_of hr) (pv 0) pe_str (fun _ _ => rfl)) pe_int) (pv 4)) (pe_dget (hu_of hr) (pv 0) pe_str (fun _ _ => rfl))) pe_int) rfl)
  (pss_one (ps_ret (pe_op op_mod (pe_op op_mod (pe_op op_add (pe_op op_mul (pe_dget (hu_of hr) (pv 0) pe_str (fun _ _ => rfl)) (pe_dget (hu_of hr) (pv 0) pe_str (fun _ _ => rfl))) (pe_op op_mul pe_int (pe_dget (hu_of hr) (pv 0) pe_str (fun _ _ => rfl)))) pe_int) (pv 1))))))))))
theorem ok__law_draw (T : Tx K mg) : FnOk P w K mg base CX0 1 T.f__law_draw T.d__law_draw ["_law_state", "_law_many"] (sp__law_draw K) :=
  T.F__law_draw.ok sc__law_draw (fun vs H Q E h => len__law_draw h) (fun cdv A outer s H vs Q E hr h => ⟨t__law_draw K, der__law_draw T hr, rd__law_draw h⟩)
theorem der__law_number (T : Tx K mg) {cdv : Value} {A : Around} {outer : List Env} {s : Shared} {H : Hp} {E : XK} (hr : Room 1 (A.deeper (envOfC "_law_number" (defScope s__law_number) s.heap.objs.size T.f__law_number cdv))) :
    PSs (cxOf CX0 P w K mg base n__law_number "_law_number" (defScope s__law_number) T.f__law_number cdv A outer s H E).nox (defBody s__law_number) (t__law_number K) :=
  have nd := sc__law_number.nd
  (pss_cons (ps_set (i := 3) nd rfl (Or.inl rfl) (pe_lst (pa_cons pe_int (pa_cons (pe_op op_pow pe_int pe_int) (pa_cons pe_int (pa_cons (pv 2) pa_nil))))))
  (pss_cons (ps_set (i := 4) nd rfl (Or.inl rfl) (pe_lst (pa_cons (pe_call (ok__law_draw T) (hr.mono (by decide)) (by rfl) T.g__law_draw T.F__law_draw.kp T.b__law_draw .nil pass0 (pa_cons (pv 0) (pa_cons pe_int pa_nil))) (pa_cons (pe_call (ok__law_draw T) (hr.mono (by decide)) (by rfl) T.g__law_draw T.F__law_draw.kp T.b__law_draw .nil pass0 (pa_cons (pv 0) (pa_cons pe_int pa_nil))) (pa_cons (pe_ix ix_list (pv 3) (pe_call (ok__law_draw T) (hr.mono (by decide)) (by rfl) T.g__law_draw T.F__law_draw.kp T.b__law_draw .nil pass0 (pa_cons (pv 0) (pa_cons pe_int pa_nil))) (fun _ _ => rfl)) pa_nil)))))
  (pss_one (ps_ret (pe_ix ix_list (pe_op op_cat (pv 4) (pe_lst (pa_cons (pe_ix ix_list (pv 3) (pe_op op_mul pe_int (pe_call (ok__law_draw T) (hr.mono (by decide)) (by rfl) T.g__law_draw T.F__law_draw.kp T.b__law_draw .nil pass0 (pa_cons (pv 0) (pa_cons pe_int pa_nil)))) (fun _ _ => rfl)) pa_nil))) (pv 1) (fun _ _ => rfl))))))
theorem ok__law_number (T : Tx K mg) : FnOk P w K mg base CX0 2 T.f__law_number T.d__law_number ["_law_state", "_law_way", "_law_base"] (sp__law_number K) :=
  T.F__law_number.ok sc__law_number (fun vs H Q E h => len__law_number h) (fun cdv A outer s H vs Q E hr h => ⟨t__law_number K, der__law_number T hr, rd__law_number h⟩)
theorem der__law_numbers (T : Tx K mg) {cdv : Value} {A : Around} {outer : List Env} {s : Shared} {H : Hp} {E : XK} (hr : Room 2 (A.deeper (envOfC "_law_numbers" (defScope s__law_numbers) s.heap.objs.size T.f__law_numbers cdv))) :
    PSs (cxOf CX0 P w K mg base n__law_numbers "_law_numbers" (defScope s__law_numbers) T.f__law_numbers cdv A outer s H E).nox (defBody s__law_numbers) (t__law_numbers K) :=
  have nd := sc__law_numbers.nd
  (pss_cons (ps_par3 (i := 2) (j := 3) (l := 4) rfl nd rfl rfl rfl (by decide) (by decide) (by decide) rfl rfl rfl (pa_cons (pe_call (ok__law_draw T) (hr.mono (by decide)) (by rfl) T.g__law_draw T.F__law_draw.kp T.b__law_draw .nil pass0 (pa_cons (pv 0) (pa_cons pe_int pa_nil))) (pa_cons (pe_call (ok__law_draw T) (hr.mono (by decide)) (by rfl) T.g__law_draw T.F__law_draw.kp T.b__law_draw .nil pass0 (pa_cons (pv 0) (pa_cons pe_int pa_nil))) (pa_cons (pe_op op_add pe_int (pe_call (ok__law_draw T) (hr.mono (by decide)) (by rfl) T.g__law_draw T.F__law_draw.kp T.b__law_draw .nil pass0 (pa_cons (pv 0) (pa_cons pe_int pa_nil)))) pa_nil))) (by rfl))
  (pss_cons (ps_set (i := 5) nd rfl (Or.inl rfl) (pe_lst pa_nil))
  (pss_cons (ps_for PassesOwn.never rfl (pi_range1 rfl T.m_range (pa_cons (pv 1) pa_nil)) (pg_name (i := 6) nd rfl (by first | exact Or.inl rfl | exact Or.inr rfl))
  (pss_cons (ps_set (i := 7) nd rfl (Or.inl rfl) (pe_ix ix_list (pe_lst (pa_cons (pe_op op_mul (pv 6) (pv 4)) (pa_cons (pe_op op_mul (pe_op op_sub (pe_op op_sub (pv 1) pe_int) (pv 6)) (pv 4)) (pa_cons (pv 3) pa_nil)))) (pe_callB (cr_max2 rfl) (by rfl) T.m_max (by decide +kernel) (pa_cons pe_int (pa_cons (pe_op op_sub (pv 2) pe_int) pa_nil))) (fun _ _ => rfl)))
  (pss_one (ps_expr (pe_bm PySem.F.plainAttrs_list PySem.F.slot_list_append PySem.F.type_list_append mt_append (pv 5) (pa_cons (pe_ifExp (pt_cmpR op_lt (pv 2) pe_int (nomark _)) (pe_call (ok__law_number T) (hr.mono (by decide)) (by rfl) T.g__law_number T.F__law_number.kp T.b__law_number .nil pass0 (pa_cons (pv 0) (pa_cons (pv 2) (pa_cons (pv 3) pa_nil)))) (pv 7)) pa_nil))))))
  (pss_one (ps_ret (pv 5))))))
theorem ok__law_numbers (T : Tx K mg) : FnOk P w K mg base CX0 3 T.f__law_numbers T.d__law_numbers ["_law_state", "_law_many"] (sp__law_numbers K) :=
  T.F__law_numbers.ok sc__law_numbers (fun vs H Q E h => len__law_numbers h) (fun cdv A outer s H vs Q E hr h => ⟨t__law_numbers K, der__law_numbers T hr, rd__law_numbers h⟩)
theorem der__law_joined (T : Tx K mg) {cdv : Value} {A : Around} {outer : List Env} {s : Shared} {H : Hp} {E : XK} (hr : Room 0 (A.deeper (envOfC "_law_joined" (defScope s__law_joined) s.heap.objs.size T.f__law_joined cdv))) :
    PSs (cxOf CX0 P w K mg base n__law_joined "_law_joined" (defScope s__law_joined) T.f__law_joined cdv A outer s H E).nox (defBody s__law_joined) (t__law_joined K) :=
  have nd := sc__law_joined.nd
  (pss_cons (ps_set (i := 2) nd rfl (Or.inr rfl) (pe_callB cr_sortedIT (by rfl) T.m_sorted (by decide +kernel) (pa_cons (pe_op op_catA (pv 0) (pv 1)) pa_nil)))
  (pss_one (ps_ret (pe_callTy cr_tupleO (by rfl) T.m_tuple (by decide +kernel) (pa_cons (pe_lc (own := [("_law_k", 3)]) rfl nd (pi_range3 rfl T.m_range (pa_cons pe_int (pa_cons (pe_callB cr_len (by rfl) T.m_len (by decide +kernel) (pa_cons (pv 2) pa_nil)) (pa_cons pe_int pa_nil)))) (blkOk_by (own := [("_law_k", 3)]) (N := n__law_joined) (sc := defScope s__law_joined) (by decide +kernel)) (fun _ _ _ _ _ => (pg_name (i := 3) nd rfl (by first | exact Or.inl rfl | exact Or.inr rfl))) (fun _ _ _ _ _ => pts_nil) (fun _ _ _ _ _ => (pe_ix ix_list (pv 2) (pv 3) (fun _ _ => rfl)))) pa_nil)))))
theorem ok__law_joined (T : Tx K mg) : FnOk P w K mg base CX0 1 T.f__law_joined T.d__law_joined ["_law_one", "_law_another"] (sp__law_joined K) :=
  T.F__law_joined.ok sc__law_joined (fun vs H Q E h => len__law_joined h) (fun cdv A outer s H vs Q E hr h => ⟨t__law_joined K, der__law_joined T hr, rd__law_joined h⟩)
theorem der__law_with (T : Tx K mg) {cdv : Value} {A : Around} {outer : List Env} {s : Shared} {H : Hp} {E : XK} (hr : Room 1 (A.deeper (envOfC "_law_with" (defScope s__law_with) s.heap.objs.size T.f__law_with cdv))) :
    PSs (cxOf CX0 P w K mg base n__law_with "_law_with" (defScope s__law_with) T.f__law_with cdv A outer s H E).nox (defBody s__law_with) (t__law_with K) :=
  have nd := sc__law_with.nd
  (pss_cons (ps_par (i := 3) (j := 4) rfl nd rfl rfl (by decide) rfl rfl (pa_cons (pe_callTy cr_dictC (by rfl) T.m_dict (by decide +kernel) (pa_cons (pe_ix ix_list (pv 0) pe_int (fun _ _ => rfl)) pa_nil)) (pa_cons (pe_callB cr_sortedI (by rfl) T.m_sorted (by decide +kernel) (pa_cons (pe_op op_cat (pe_ix ix_list (pv 0) pe_int (fun _ _ => rfl)) (pe_lst (pa_cons (pv 2) pa_nil))) pa_nil)) pa_nil)) (by rfl))
  (pss_cons (ps_if (pt_cmpR op_lt (pe_callB cr_len (by rfl) T.m_len (by decide +kernel) (pa_cons (pv 4) pa_nil)) (pv 1) (nomark _)) (pss_one (ps_ret (pe_lst (pa_cons (pv 3) (pa_cons (pv 4) pa_nil))))) pss_nil)
  (pss_cons (ps_par (i := 5) (j := 6) rfl nd rfl rfl (by decide) rfl rfl (pa_cons (pe_callTy cr_tupleO (by rfl) T.m_tuple (by decide +kernel) (pa_cons (pv 4) pa_nil)) (pa_cons pe_int pa_nil)) (by rfl))
  (pss_cons (ps_while PassesOwn.never (pt_cmp (pc_din (hu_of hr) (pv 6) (pv 3)))
  (pss_cons (ps_set (i := 5) nd rfl (Or.inl rfl) (pe_call (ok__law_joined T) (hr.mono (by decide)) (by rfl) T.g__law_joined T.F__law_joined.kp T.b__law_joined .nil pass0 (pa_cons (pe_dpop1 (pv 3) (pv 6) ⟨rfl, rfl, rfl, rfl⟩) (pa_cons (pv 5) pa_nil))))
  (pss_one (ps_set (i := 6) nd rfl (Or.inl rfl) (pe_op op_add (pv 6) pe_int)))))
  (pss_cons (ps_dput (hu_of hr) (pv 3) (pv 6) (pv 5) rfl)
  (pss_one (ps_ret (pe_lst (pa_cons (pv 3) (pa_cons (pe_lst pa_nil) pa_nil))))))))))
theorem ok__law_with (T : Tx K mg) : FnOk P w K mg base CX0 2 T.f__law_with T.d__law_with ["_law_left", "_law_wide", "_law_number_here"] (sp__law_with K) :=
  T.F__law_with.ok sc__law_with (fun vs H Q E h => len__law_with h) (fun cdv A outer s H vs Q E hr h => ⟨t__law_with K, der__law_with T hr, rd__law_with h⟩)
theorem der__law_poured (T : Tx K mg) {cdv : Value} {A : Around} {outer : List Env} {s : Shared} {H : Hp} {E : XK} (hr : Room 2 (A.deeper (envOfC "_law_poured" (defScope s__law_poured) s.heap.objs.size T.f__law_poured cdv))) :
    PSs (cxOf CX0 P w K mg base n__law_poured "_law_poured" (defScope s__law_poured) T.f__law_poured cdv A outer s H E).nox (defBody s__law_poured) (t__law_poured K) :=
  have nd := sc__law_poured.nd
  (pss_cons (ps_par (i := 3) (j := 4) rfl nd rfl rfl (by decide) rfl rfl (pa_cons pe_dnewK (pa_cons pe_non pa_nil)) (by rfl))
  (pss_cons (ps_for PassesOwn.never rfl (pi_range1 rfl T.m_range (pa_cons pe_int pa_nil)) (pg_name (i := 5) nd rfl (by first | exact Or.inl rfl | exact Or.inr rfl))
  (pss_cons (ps_setLc (i := 6) (own := [("_law_left", 7)]) rfl nd rfl rfl (sw_true rfl rfl rfl (by decide +kernel)) (pi_tup (pe_tup (pa_cons (pv 0) (pa_cons (pv 1) pa_nil)))) (blkOk_by (own := [("_law_left", 7)]) (N := n__law_poured) (sc := defScope s__law_poured) (by decide +kernel)) (fun _ _ _ _ _ => (pg_name (i := 7) nd rfl (by first | exact Or.inl rfl | exact Or.inr rfl))) (fun _ _ _ _ _ => (pts_one (pt_cmp (pc_din (hu_of hr) (pv 5) (pe_ix ix_list (pv 7) pe_int (fun _ _ => rfl)))))) (fun _ _ _ _ _ => (pe_dget (hu_of hr) (pe_ix ix_list (pv 7) pe_int (fun _ _ => rfl)) (pv 5) (fun _ _ => rfl))))
  (pss_cons (ps_if (pt_cmpR op_notN (pv 4) pe_non (nomark _)) (pss_one (ps_expr (pe_bm PySem.F.plainAttrs_list PySem.F.slot_list_append PySem.F.type_list_append mt_append (pv 6) (pa_cons (pv 4) pa_nil)))) pss_nil)
  (pss_cons (ps_set (i := 4) nd rfl (Or.inl rfl) pe_non)
  (pss_cons (ps_if (pt_cmpR op_gt (pe_callB cr_len (by rfl) T.m_len (by decide +kernel) (pa_cons (pv 6) pa_nil)) pe_int (nomark _)) (pss_cons (ps_set (i := 4) nd rfl (Or.inl rfl) (pe_call (ok__law_joined T) (hr.mono (by decide)) (by rfl) T.g__law_joined T.F__law_joined.kp T.b__law_joined .nil pass0 (pa_cons (pe_ix ix_list (pv 6) pe_int (fun _ _ => rfl)) (pa_cons (pe_ix ix_list (pv 6) pe_int (fun _ _ => rfl)) pa_nil))))
  (pss_one (ps_set (i := 6) nd rfl (Or.inl rfl) (pe_slice sl_list (pv 6) (po_some pe_int) po_none)))) pss_nil)
  (pss_one (ps_for PassesOwn.never rfl (pi_list (pv 6)) (pg_name (i := 8) nd rfl (by first | exact Or.inl rfl | exact Or.inr rfl))
  (pss_one (ps_dput (hu_of hr) (pv 3) (pv 5) (pv 8) rfl)))))))))
  (pss_cons (ps_set (i := 9) nd rfl (Or.inl rfl) (pe_lst (pa_cons (pv 3) (pa_cons (pe_ix ix_list (pv 0) pe_int (fun _ _ => rfl)) pa_nil))))
  (pss_cons (ps_for PassesOwn.never rfl (pi_list (pe_ix ix_list (pv 1) pe_int (fun _ _ => rfl))) (pg_name (i := 10) nd rfl (by first | exact Or.inl rfl | exact Or.inr rfl))
  (pss_one (ps_set (i := 9) nd rfl (Or.inl rfl) (pe_call (ok__law_with T) (hr.mono (by decide)) (by rfl) T.g__law_with T.F__law_with.kp T.b__law_with .nil pass0 (pa_cons (pv 9) (pa_cons (pv 2) (pa_cons (pv 10) pa_nil)))))))
  (pss_one (ps_ret (pv 9)))))))
theorem ok__law_poured (T : Tx K mg) : FnOk P w K mg base CX0 3 T.f__law_poured T.d__law_poured ["_law_one", "_law_another", "_law_wide"] (sp__law_poured K) :=
  T.F__law_poured.ok sc__law_poured (fun vs H Q E h => len__law_poured h) (fun cdv A outer s H vs Q E hr h => ⟨t__law_poured K, der__law_poured T hr, rd__law_poured h⟩)
theorem der__law_alike (T : Tx K mg) {cdv : Value} {A : Around} {outer : List Env} {s : Shared} {H : Hp} {E : XK} (hr : Room 1 (A.deeper (envOfC "_law_alike" (defScope s__law_alike) s.heap.objs.size T.f__law_alike cdv))) :
    PSs (cxOf CX0 P w K mg base n__law_alike "_law_alike" (defScope s__law_alike) T.f__law_alike cdv A outer s H E).nox (defBody s__law_alike) (t__law_alike K T.c_Ladder) :=
  have nd := sc__law_alike.nd
  (pss_one (ps_ret (pe_and (pe_cmpR (op_eqQ hr.units) (pe_meth0 (pv 0) T.cl_Ladder T.M_Ladder_rungs (ok_Ladder_rungs T) (hr.mono (by decide)) T.b_Ladder_rungs .nil pass0) (pe_ix ix_list (pv 1) pe_int (fun _ _ => rfl)) (nomark _)) (pe_one (pe_cmpR (op_eqT hr.units) (pe_meth0 (pv 0) T.cl_Ladder T.M_Ladder_loose (ok_Ladder_loose T) (hr.mono (by decide)) T.b_Ladder_loose .nil pass0) (pe_callTy cr_tupleO (by rfl) T.m_tuple (by decide +kernel) (pa_cons (pe_ix ix_list (pv 1) pe_int (fun _ _ => rfl)) pa_nil)) (nomark _))))))
theorem ok__law_alike (T : Tx K mg) : FnOk P w K mg base CX0 2 T.f__law_alike T.d__law_alike ["_law_ladder", "_law_left"] (sp__law_alike K T.c_Ladder) :=
  T.F__law_alike.ok sc__law_alike (fun vs H Q E h => len__law_alike h) (fun cdv A outer s H vs Q E hr h => ⟨t__law_alike K T.c_Ladder, der__law_alike T hr, rd__law_alike T.rc_Ladder h⟩)
theorem der__law_plain (T : Tx K mg) {cdv : Value} {A : Around} {outer : List Env} {s : Shared} {H : Hp} {E : XK} (hr : Room 1 (A.deeper (envOfC "_law_plain" (defScope s__law_plain) s.heap.objs.size T.f__law_plain cdv))) :
    PSs (cxOf CX0 P w K mg base n__law_plain "_law_plain" (defScope s__law_plain) T.f__law_plain cdv A outer s H E).nox (defBody s__law_plain) (t__law_plain K T.c_Ladder) :=
  have nd := sc__law_plain.nd
  (pss_cons (ps_par (i := 1) (j := 2) rfl nd rfl rfl (by decide) rfl rfl (pa_cons (pe_lst pa_nil) (pa_cons (pe_meth0 (pv 0) T.cl_Ladder T.M_Ladder_rungs (ok_Ladder_rungs T) (hr.mono (by decide)) T.b_Ladder_rungs .nil pass0) pa_nil)) (by rfl))
  (pss_cons (ps_for PassesOwn.never rfl (pi_list (pe_revL (pe_callB cr_sortedDI (by rfl) T.m_sorted (by decide +kernel) (pa_cons (pv 2) pa_nil)))) (pg_name (i := 3) nd rfl (by first | exact Or.inl rfl | exact Or.inr rfl))
  (pss_one (ps_set (i := 1) nd rfl (Or.inl rfl) (pe_op op_cat (pv 1) (pe_op op_rep (pe_callTy cr_listO (by rfl) T.m_list (by decide +kernel) (pa_cons (pe_dget (hu_of hr) (pv 2) (pv 3) (fun _ _ => rfl)) pa_nil)) (pe_op op_shl pe_int (pv 3)))))))
  (pss_one (ps_ret (pe_callTy cr_tupleO (by rfl) T.m_tuple (by decide +kernel) (pa_cons (pe_op op_cat (pv 1) (pe_callTy cr_listO (by rfl) T.m_list (by decide +kernel) (pa_cons (pe_meth0 (pv 0) T.cl_Ladder T.M_Ladder_loose (ok_Ladder_loose T) (hr.mono (by decide)) T.b_Ladder_loose .nil pass0) pa_nil))) pa_nil))))))
theorem ok__law_plain (T : Tx K mg) : FnOk P w K mg base CX0 2 T.f__law_plain T.d__law_plain ["_law_ladder"] (sp__law_plain K T.c_Ladder) :=
  T.F__law_plain.ok sc__law_plain (fun vs H Q E h => len__law_plain h) (fun cdv A outer s H vs Q E hr h => ⟨t__law_plain K T.c_Ladder, der__law_plain T hr, rd__law_plain T.rc_Ladder h⟩)
theorem der__law_refused (T : Tx K mg) {cdv : Value} {A : Around} {outer : List Env} {s : Shared} {H : Hp} {E : XK} (hr : Room 3 (A.deeper (envOfC "_law_refused" (defScope s__law_refused) s.heap.objs.size T.f__law_refused cdv))) :
    PSs (cxOf CX0 P w K mg base n__law_refused "_law_refused" (defScope s__law_refused) T.f__law_refused cdv A outer s H E).nox (defBody s__law_refused) (t__law_refused K T.c_Ladder) :=
  have nd := sc__law_refused.nd
  (pss_cons (ps_par (i := 2) (j := 3) rfl nd rfl rfl (by decide) rfl rfl (pa_cons (pe_meth0 (pv 0) T.cl_Ladder T.M_Ladder_twin (ok_Ladder_twin T) (hr.mono (by decide)) T.b_Ladder_twin .nil pass0) (pa_cons pe_non pa_nil)) (by rfl))
  (pss_cons (BX.ps_try_asK (i := 4) (tb := fun W => (tDrop (tMethTS T.c_Ladder "pour" (sp_Ladder_pour K T.c_Ladder) (WE W) (tVar 0) (tCons (tVar 1) tNil)))) (ts := fun a cls d => (tAsg (tVar 4) (gName 3))) (Wout := fun _ _ _ _ => False) rfl rfl nd rfl rfl ⟨by rfl, by decide, Or.inl T.g_NoKeeper⟩ takes0 (fun W pn xe tk _ => (pss_one (ps_expr (pe_methTS (pv 0) T.cl_Ladder T.M_Ladder_pour (ok_Ladder_pour T) (hr.mono (by decide)) T.b_Ladder_pour (fun σ => passAt tk σ) (pa_cons (pv 1) pa_nil))))) (fun a oe cls d pn hz hf => (pss_one (ps_set (i := 3) nd rfl (Or.inl rfl) (pv 4)))) rfl)
  (pss_one (ps_ret (pe_and (pe_callB BX.call_isK (by rfl) T.m_isinstance (by decide +kernel) (pa_cons (pv 3) (pa_cons (pe_bltn (by rfl) T.m_ValueError (by decide +kernel) rfl) pa_nil))) (pe_one (pe_cmpR (op_insEq (ok_Ladder___eq__ T) (hr.mono (by decide)) T.M_Ladder___eq__ T.b_Ladder___eq__ pass0) (pv 0) (pv 2) (nomark _))))))))
theorem ok__law_refused (T : Tx K mg) : FnOk P w K mg base CX0 4 T.f__law_refused T.d__law_refused ["_law_ladder", "_law_thing"] (sp__law_refused K T.c_Ladder) :=
  T.F__law_refused.ok sc__law_refused (fun vs H Q E h => len__law_refused h) (fun cdv A outer s H vs Q E hr h => ⟨t__law_refused K T.c_Ladder, der__law_refused T hr, rd__law_refused T.rc_Ladder T.rf_NoKeeper T.xe_NoKeeper h⟩)
theorem der__law_drawn (T : Tx K mg) {cdv : Value} {A : Around} {outer : List Env} {s : Shared} {H : Hp} {E : XK} (hr : Room 3 (A.deeper (envOfC "_law_drawn" (defScope s__law_drawn) s.heap.objs.size T.f__law_drawn cdv))) :
    PSs (cxOf CX0 P w K mg base n__law_drawn "_law_drawn" (defScope s__law_drawn) T.f__law_drawn cdv A outer s H E).nox (defBody s__law_drawn) (t__law_drawn K T.c_Ladder) :=
  have nd := sc__law_drawn.nd
  (pss_cons (ps_par3 (i := 3) (j := 4) (l := 5) rfl nd rfl rfl rfl (by decide) (by decide) (by decide) rfl rfl rfl (pa_cons (pe_lst pa_nil) (pa_cons (pe_lst pa_nil) (pa_cons (pe_lst pa_nil) pa_nil))) (by rfl))
  (pss_cons (ps_for PassesOwn.never rfl (pi_range1 rfl T.m_range (pa_cons (pe_op op_add pe_int (pe_call (ok__law_draw T) (hr.mono (by decide)) (by rfl) T.g__law_draw T.F__law_draw.kp T.b__law_draw .nil pass0 (pa_cons (pv 0) (pa_cons pe_int pa_nil)))) pa_nil)) (pg_name (i := 6) nd rfl (by first | exact Or.inl rfl | exact Or.inr rfl))
  (pss_cons (ps_set (i := 5) nd rfl (Or.inl rfl) (pe_call (ok__law_numbers T) (hr.mono (by decide)) (by rfl) T.g__law_numbers T.F__law_numbers.kp T.b__law_numbers .nil pass0 (pa_cons (pv 0) (pa_cons (pe_ifExp (PW.pt (pw_and (pt_val (pv 2)) (pw_and1 (pt_cmpR op_lt (pv 6) pe_int (nomark _))))) (pe_op op_sub pe_int (pe_call (ok__law_draw T) (hr.mono (by decide)) (by rfl) T.g__law_draw T.F__law_draw.kp T.b__law_draw .nil pass0 (pa_cons (pv 0) (pa_cons pe_int pa_nil)))) (pe_call (ok__law_draw T) (hr.mono (by decide)) (by rfl) T.g__law_draw T.F__law_draw.kp T.b__law_draw .nil pass0 (pa_cons (pv 0) (pa_cons pe_int pa_nil)))) pa_nil))))
  (pss_cons (ps_if (PW.pt (pw_and (pt_cmpR op_eq (pv 6) pe_int (nomark _)) (pw_and1 (pt_cmpR op_eq (pe_call (ok__law_draw T) (hr.mono (by decide)) (by rfl) T.g__law_draw T.F__law_draw.kp T.b__law_draw .nil pass0 (pa_cons (pv 0) (pa_cons pe_int pa_nil))) pe_int (nomark _))))) (pss_one (ps_set (i := 5) nd rfl (Or.inl rfl) (pe_lst pa_nil))) pss_nil)
  (pss_cons (ps_expr (pe_bm PySem.F.plainAttrs_list PySem.F.slot_list_append PySem.F.type_list_append mt_append (pv 3) (pa_cons (pe_call (ok_ladder_of T) (hr.mono (by decide)) (by rfl) T.g_ladder_of T.F_ladder_of.kp T.b_ladder_of .nil passL (pa_cons (pv 1) (pa_cons (pv 5) pa_nil))) pa_nil)))
  (pss_cons (ps_set (i := 7) nd rfl (Or.inl rfl) (pe_lst (pa_cons pe_dnewK (pa_cons (pe_lst pa_nil) pa_nil))))
  (pss_cons (ps_for PassesOwn.never rfl (pi_list (pv 5)) (pg_name (i := 8) nd rfl (by first | exact Or.inl rfl | exact Or.inr rfl))
  (pss_one (ps_set (i := 7) nd rfl (Or.inl rfl) (pe_call (ok__law_with T) (hr.mono (by decide)) (by rfl) T.g__law_with T.F__law_with.kp T.b__law_with .nil pass0 (pa_cons (pv 7) (pa_cons (pv 1) (pa_cons (pv 8) pa_nil)))))))
  (pss_one (ps_expr (pe_bm PySem.F.plainAttrs_list PySem.F.slot_list_append PySem.F.type_list_append mt_append (pv 4) (pa_cons (pv 7) pa_nil))))))))))
  (pss_one (ps_ret (pe_lst (pa_cons (pv 3) (pa_cons (pv 4) (pa_cons (pv 5) pa_nil))))))))
theorem ok__law_drawn (T : Tx K mg) : FnOk P w K mg base CX0 4 T.f__law_drawn T.d__law_drawn ["_law_state", "_law_wide", "_law_great"] (sp__law_drawn K T.c_Ladder) :=
  T.F__law_drawn.ok sc__law_drawn (fun vs H Q E h => len__law_drawn h) (fun cdv A outer s H vs Q E hr h => ⟨t__law_drawn K T.c_Ladder, der__law_drawn T hr, rd__law_drawn T.rc_Ladder h⟩)
theorem der__law_apart (T : Tx K mg) {cdv : Value} {A : Around} {outer : List Env} {s : Shared} {H : Hp} {E : XK} (hr : Room 2 (A.deeper (envOfC "_law_apart" (defScope s__law_apart) s.heap.objs.size T.f__law_apart cdv))) :
    PSs (cxOf CX0 P w K mg base n__law_apart "_law_apart" (defScope s__law_apart) T.f__law_apart cdv A outer s H E).nox (defBody s__law_apart) (t__law_apart K T.c_Ladder) :=
  have nd := sc__law_apart.nd
  (pss_cons (ps_if (pt_cmpR (op_neT hr.units) (pe_lc (own := [("_law_k", 4)]) rfl nd (pi_range2 rfl T.m_range (pa_cons pe_int (pa_cons (pe_callB cr_len (by rfl) T.m_len (by decide +kernel) (pa_cons (pv 0) pa_nil)) pa_nil))) (blkOk_by (own := [("_law_k", 4)]) (N := n__law_apart) (sc := defScope s__law_apart) (by decide +kernel)) (fun _ _ _ _ _ => (pg_name (i := 4) nd rfl (by first | exact Or.inl rfl | exact Or.inr rfl))) (fun _ _ _ _ _ => (pts_one (pt_not (pt_cmpR (op_insEq (ok_Ladder___eq__ T) (hr.mono (by decide)) T.M_Ladder___eq__ T.b_Ladder___eq__ pass0) (pe_ix ix_list (pv 0) (pv 4) (fun _ _ => rfl)) (pe_ix ix_list (pv 1) (pv 4) (fun _ _ => rfl)) (nomark _))))) (fun _ _ _ _ _ => (pv 4))) (pe_lst pa_nil) (nomark _)) (pss_one (ps_ret pe_bl)) pss_nil)
  (pss_cons (ps_for PassesOwn.never rfl (pi_list (pe_slice sl_list (pv 0) (po_some pe_int) po_none)) (pg_name (i := 5) nd rfl (by first | exact Or.inl rfl | exact Or.inr rfl))
  (pss_one (ps_for PassesOwn.never rfl (pi_range1 rfl T.m_range (pa_cons (pv 2) pa_nil)) (pg_name (i := 6) nd rfl (by first | exact Or.inl rfl | exact Or.inr rfl))
  (pss_one (ps_expr (pe_meth (pv 5) T.cl_Ladder T.M_Ladder_feed (ok_Ladder_feed T) (hr.mono (by decide)) T.b_Ladder_feed .nil passL (pa_cons (pv 3) pa_nil)))))))
  (pss_one (ps_ret pe_bl))))
theorem ok__law_apart (T : Tx K mg) : FnOk P w K mg base CX0 3 T.f__law_apart T.d__law_apart ["_law_made", "_law_twins", "_law_wide", "_law_extra"] (sp__law_apart K T.c_Ladder) :=
  T.F__law_apart.ok sc__law_apart (fun vs H Q E h => len__law_apart h) (fun cdv A outer s H vs Q E hr h => ⟨t__law_apart K T.c_Ladder, der__law_apart T hr, rd__law_apart T.rc_Ladder h⟩)
theorem der_law (T : Tx K mg) {cdv : Value} {A : Around} {outer : List Env} {s : Shared} {H : Hp} {E : XK} (hr : Room 4 (A.deeper (envOfC "law" (defScope s_law) s.heap.objs.size T.f_law cdv))) :
    PSs (cxOf CX0 P w K mg base n_law "law" (defScope s_law) T.f_law cdv A outer s H E).nox (defBody s_law) (t_law K T.c_Ladder) :=
  have nd := sc_law.nd
  (pss_cons (ps_set (i := 1) nd rfl (Or.inl rfl) (pe_call (ok__law_begun T) (hr.mono (by decide)) (by rfl) T.g__law_begun T.F__law_begun.kp T.b__law_begun .nil pass0 (pa_cons (pv 0) pa_nil)))
  (pss_cons (ps_asg (pe_tup (pa_cons (pe_op op_add pe_int (pe_call (ok__law_draw T) (hr.mono (by decide)) (by rfl) T.g__law_draw T.F__law_draw.kp T.b__law_draw .nil pass0 (pa_cons (pv 1) (pa_cons pe_int pa_nil)))) (pa_cons (pe_cmpR op_eq (pe_call (ok__law_draw T) (hr.mono (by decide)) (by rfl) T.g__law_draw T.F__law_draw.kp T.b__law_draw .nil pass0 (pa_cons (pv 1) (pa_cons pe_int pa_nil))) pe_int (nomark _)) pa_nil))) (pg_tup rfl (pgs_cons (pg_name (i := 2) nd rfl (by first | exact Or.inl rfl | exact Or.inr rfl)) (pgs_cons (pg_name (i := 3) nd rfl (by first | exact Or.inl rfl | exact Or.inr rfl)) pgs_nil))))
  (pss_cons (ps_asg (pe_call (ok__law_drawn T) (hr.mono (by decide)) (by rfl) T.g__law_drawn T.F__law_drawn.kp T.b__law_drawn .nil pass0 (pa_cons (pv 1) (pa_cons (pv 2) (pa_cons (pv 3) pa_nil)))) (pg_unl rfl (pgs_cons (pg_name (i := 4) nd rfl (by first | exact Or.inl rfl | exact Or.inr rfl)) (pgs_cons (pg_name (i := 5) nd rfl (by first | exact Or.inl rfl | exact Or.inr rfl)) (pgs_cons (pg_name (i := 6) nd rfl (by first | exact Or.inl rfl | exact Or.inr rfl)) pgs_nil)))))
  (pss_cons (ps_par3 (i := 7) (j := 8) (l := 9) rfl nd rfl rfl rfl (by decide) (by decide) (by decide) rfl rfl rfl (pa_cons (pe_ix ix_list (pv 4) pe_int (fun _ _ => rfl)) (pa_cons (pe_ix ix_list (pv 5) pe_int (fun _ _ => rfl)) (pa_cons (pe_lc (own := [("_law_one", 10)]) rfl nd (pi_list (pv 4)) (blkOk_by (own := [("_law_one", 10)]) (N := n_law) (sc := defScope s_law) (by decide +kernel)) (fun _ _ _ _ _ => (pg_name (i := 10) nd rfl (by first | exact Or.inl rfl | exact Or.inr rfl))) (fun _ _ _ _ _ => pts_nil) (fun _ _ _ _ _ => (pe_meth0 (pv 10) T.cl_Ladder T.M_Ladder_twin (ok_Ladder_twin T) (hr.mono (by decide)) T.b_Ladder_twin .nil pass0))) pa_nil))) (by rfl))
  (pss_cons (ps_for PassesOwn.never rfl (pi_zip rfl T.m_zip (pa_cons (pe_slice sl_list (pv 4) (po_some pe_int) po_none) (pa_cons (pe_slice sl_list (pv 5) (po_some pe_int) po_none) pa_nil))) (pg_tup rfl (pgs_cons (pg_name (i := 11) nd rfl (by first | exact Or.inl rfl | exact Or.inr rfl)) (pgs_cons (pg_name (i := 12) nd rfl (by first | exact Or.inl rfl | exact Or.inr rfl)) pgs_nil)))
  (pss_cons (ps_set (i := 13) nd rfl (Or.inr rfl) (pe_op op_add (pe_meth0 (pv 7) T.cl_Ladder T.M_Ladder_fed (ok_Ladder_fed T) (hr.mono (by decide)) T.b_Ladder_fed .nil pass0) (pe_meth0 (pv 11) T.cl_Ladder T.M_Ladder_fed (ok_Ladder_fed T) (hr.mono (by decide)) T.b_Ladder_fed .nil pass0)))
  (pss_cons (ps_if (PW.pt (pw_or (pt_cmpR op_notN (pe_methKw (pv 7) T.cl_Ladder T.M_Ladder_pour (ok_Ladder_pour T) (hr.mono (by decide)) T.km_Ladder_pour_other passL (pk_cons (pv 11) pk_nil)) pe_non (nomark _)) (pw_or1 (pt_cmpR op_ne (pe_meth0 (pv 7) T.cl_Ladder T.M_Ladder_fed (ok_Ladder_fed T) (hr.mono (by decide)) T.b_Ladder_fed .nil pass0) (pv 13) (nomark _))))) (pss_one (ps_ret pe_bl)) pss_nil)
  (pss_cons (ps_set (i := 8) nd rfl (Or.inl rfl) (pe_call (ok__law_poured T) (hr.mono (by decide)) (by rfl) T.g__law_poured T.F__law_poured.kp T.b__law_poured .nil pass0 (pa_cons (pv 8) (pa_cons (pv 12) (pa_cons (pv 2) pa_nil)))))
  (pss_cons (ps_if (pt_not (pt_val (pe_call (ok__law_alike T) (hr.mono (by decide)) (by rfl) T.g__law_alike T.F__law_alike.kp T.b__law_alike .nil pass0 (pa_cons (pv 7) (pa_cons (pv 8) pa_nil))))) (pss_one (ps_ret pe_bl)) pss_nil)
  (pss_one (ps_if (pt_cmpR (op_neT hr.units) (pe_callB cr_sortedDI (by rfl) T.m_sorted (by decide +kernel) (pa_cons (pe_ix ix_list (pv 8) pe_int (fun _ _ => rfl)) pa_nil)) (pe_lc (own := [("_law_height", 14)]) rfl nd (pi_range1 rfl T.m_range (pa_cons pe_int pa_nil)) (blkOk_by (own := [("_law_height", 14)]) (N := n_law) (sc := defScope s_law) (by decide +kernel)) (fun _ _ _ _ _ => (pg_name (i := 14) nd rfl (by first | exact Or.inl rfl | exact Or.inr rfl))) (fun _ _ _ _ _ => (pts_one (pt_cmpR op_eq (pe_op op_and (pe_op op_shr (pe_op op_fdiv (pv 13) (pv 2)) (pv 14)) pe_int) pe_int (nomark _)))) (fun _ _ _ _ _ => (pv 14))) (nomark _)) (pss_one (ps_ret pe_bl)) pss_nil)))))))
  (pss_cons (ps_if (pt_not (pt_val (pv 3))) (pss_cons (ps_set (i := 8) nd rfl (Or.inl rfl) (pe_call (ok__law_poured T) (hr.mono (by decide)) (by rfl) T.g__law_poured T.F__law_poured.kp T.b__law_poured .nil pass0 (pa_cons (pv 8) (pa_cons (pv 8) (pa_cons (pv 2) pa_nil)))))
  (pss_one (ps_expr (pe_meth (pv 7) T.cl_Ladder T.M_Ladder_pour (ok_Ladder_pour T) (hr.mono (by decide)) T.b_Ladder_pour .nil passL (pa_cons (pv 7) pa_nil))))) pss_nil)
  (pss_cons (ps_set (i := 15) nd rfl (Or.inl rfl) (pe_call (ok__law_draw T) (hr.mono (by decide)) (by rfl) T.g__law_draw T.F__law_draw.kp T.b__law_draw .nil pass0 (pa_cons (pv 1) (pa_cons pe_int pa_nil))))
  (pss_cons (ps_expr (pe_meth (pv 7) T.cl_Ladder T.M_Ladder_feed (ok_Ladder_feed T) (hr.mono (by decide)) T.b_Ladder_feed .nil passL (pa_cons (pv 15) pa_nil)))
  (pss_cons (ps_set (i := 8) nd rfl (Or.inl rfl) (pe_call (ok__law_with T) (hr.mono (by decide)) (by rfl) T.g__law_with T.F__law_with.kp T.b__law_with .nil pass0 (pa_cons (pv 8) (pa_cons (pv 2) (pa_cons (pv 15) pa_nil)))))
  (pss_cons (ps_if (PW.pt (pw_or (pt_not (pt_val (pe_call (ok__law_alike T) (hr.mono (by decide)) (by rfl) T.g__law_alike T.F__law_alike.kp T.b__law_alike .nil pass0 (pa_cons (pv 7) (pa_cons (pv 8) pa_nil))))) (pw_or1 (pt_cmpR op_isnot_bl (pe_call (ok_is_fed T) (hr.mono (by decide)) (by rfl) T.g_is_fed T.F_is_fed.kp T.b_is_fed .nil pass0 (pa_cons (pv 7) (pa_cons (pe_call (ok__law_plain T) (hr.mono (by decide)) (by rfl) T.g__law_plain T.F__law_plain.kp T.b__law_plain .nil pass0 (pa_cons (pv 7) pa_nil)) pa_nil))) pe_bl (nomark _))))) (pss_one (ps_ret pe_bl)) pss_nil)
  (pss_cons (ps_if (pt_not (pt_val (pe_call (ok__law_apart T) (hr.mono (by decide)) (by rfl) T.g__law_apart T.F__law_apart.kp T.b__law_apart .nil pass0 (pa_cons (pv 4) (pa_cons (pv 9) (pa_cons (pv 2) (pa_cons (pv 15) pa_nil))))))) (pss_one (ps_ret pe_bl)) pss_nil)
  (pss_cons (ps_set (i := 16) nd rfl (Or.inl rfl) (pe_call (ok_ladder_of T) (hr.mono (by decide)) (by rfl) T.g_ladder_of T.F_ladder_of.kp T.b_ladder_of .nil passL (pa_cons (pe_op op_add (pe_op op_mod (pv 2) pe_int) pe_int) (pa_cons (pe_slice sl_list (pv 6) po_none (po_some pe_int)) pa_nil))))
  (pss_cons (ps_set (i := 17) nd rfl (Or.inl rfl) (pe_ix ix_list (pe_lst (pa_cons pe_non (pa_cons (pe_make T.K_Ladder (ok_Ladder___init__ T) (hr.mono (by decide)) (by rfl) T.g_Ladder T.b_Ladder___init__ .nil passL (pa_cons (pe_op op_add (pe_op op_mod (pv 2) pe_int) pe_int) pa_nil)) (pa_cons (pv 16) (pa_cons (pv 6) (pa_cons pe_int (pa_cons pe_dnewK (pa_cons (pe_meth0 (pv 7) T.cl_Ladder T.M_Ladder_rungs (ok_Ladder_rungs T) (hr.mono (by decide)) T.b_Ladder_rungs .nil pass0) pa_nil)))))))) (pe_call (ok__law_draw T) (hr.mono (by decide)) (by rfl) T.g__law_draw T.F__law_draw.kp T.b__law_draw .nil pass0 (pa_cons (pv 1) (pa_cons pe_int pa_nil))) (fun _ _ => rfl)))
  (pss_one (ps_ret (pe_and (pe_call (ok__law_refused T) (hr.mono (by decide)) (by rfl) T.g__law_refused T.F__law_refused.kp T.b__law_refused .nil pass0 (pa_cons (pv 7) (pa_cons (pv 17) pa_nil))) (pe_one (pe_call (ok__law_alike T) (hr.mono (by decide)) (by rfl) T.g__law_alike T.F__law_alike.kp T.b__law_alike .nil pass0 (pa_cons (pv 7) (pa_cons (pv 8) pa_nil))))))))))))))))))))
theorem ok_law (T : Tx K mg) : FnOk P w K mg base CX0 5 T.f_law T.d_law ["_law_script"] (sp_law K) :=
  T.F_law.ok sc_law (fun vs H Q E h => len_law h) (fun cdv A outer s H vs Q E hr h => ⟨t_law K T.c_Ladder, der_law T hr, rd_law T.rc_Ladder T.nk_Ladder h⟩)

end

theorem all_mk {l : PySem.W.OpenLaw} {w : World} {K : Fg} {h : Heap} {mg : Str → Option Value} {fa c_Ladder c_LeftError c_NoKeeper c_NoNumber c_NoSize f_is_number f_as_one f_Ladder___init__ f_Ladder_size f_Ladder_loose f_Ladder_rungs f_Ladder_fed f_Ladder_twin f_Ladder___eq__ f_Ladder_feed f_Ladder_pour f_ladder_of f_is_fed f__law_begun f__law_draw f__law_number f__law_numbers f__law_joined f__law_with f__law_poured f__law_alike f__law_plain f__law_refused f__law_drawn f__law_apart f_law : Addr} (X : K.In h) (G : h.Ns mainGlobals mg) (hfa : mg "law" = some (.ref fa))
    {tc_GREATEST : Tok} {od_is_number an_is_number od_as_one an_as_one od_Ladder___init__ an_Ladder___init__ od_Ladder_size an_Ladder_size od_Ladder_loose an_Ladder_loose od_Ladder_rungs an_Ladder_rungs od_Ladder_fed an_Ladder_fed od_Ladder_twin an_Ladder_twin od_Ladder___eq__ an_Ladder___eq__ od_Ladder_feed an_Ladder_feed od_Ladder_pour an_Ladder_pour od_ladder_of an_ladder_of od_is_fed an_is_fed od__law_begun an__law_begun od__law_draw an__law_draw od__law_number an__law_number od__law_numbers an__law_numbers od__law_joined an__law_joined od__law_with an__law_with od__law_poured an__law_poured od__law_alike an__law_alike od__law_plain an__law_plain od__law_refused an__law_refused od__law_drawn an__law_drawn od__law_apart an__law_apart od_law an_law : Option Addr} {sl_is_number sl_as_one sl_Ladder___init__ sl_Ladder_size sl_Ladder_loose sl_Ladder_rungs sl_Ladder_fed sl_Ladder_twin sl_Ladder___eq__ sl_Ladder_feed sl_Ladder_pour sl_ladder_of sl_is_fed sl__law_begun sl__law_draw sl__law_number sl__law_numbers sl__law_joined sl__law_with sl__law_poured sl__law_alike sl__law_plain sl__law_refused sl__law_drawn sl__law_apart sl_law : Array (Option Value)} {oc_is_number kV_is_number dc_is_number pm_is_number cd_is_number ct_is_number oc_as_one kV_as_one dc_as_one pm_as_one cd_as_one ct_as_one oc_Ladder___init__ kV_Ladder___init__ dc_Ladder___init__ pm_Ladder___init__ cd_Ladder___init__ ct_Ladder___init__ oc_Ladder_size kV_Ladder_size dc_Ladder_size pm_Ladder_size cd_Ladder_size ct_Ladder_size oc_Ladder_loose kV_Ladder_loose dc_Ladder_loose pm_Ladder_loose cd_Ladder_loose ct_Ladder_loose oc_Ladder_rungs kV_Ladder_rungs dc_Ladder_rungs pm_Ladder_rungs cd_Ladder_rungs ct_Ladder_rungs oc_Ladder_fed kV_Ladder_fed dc_Ladder_fed pm_Ladder_fed cd_Ladder_fed ct_Ladder_fed oc_Ladder_twin kV_Ladder_twin dc_Ladder_twin pm_Ladder_twin cd_Ladder_twin ct_Ladder_twin oc_Ladder___eq__ kV_Ladder___eq__ dc_Ladder___eq__ pm_Ladder___eq__ cd_Ladder___eq__ ct_Ladder___eq__ oc_Ladder_feed kV_Ladder_feed dc_Ladder_feed pm_Ladder_feed cd_Ladder_feed ct_Ladder_feed oc_Ladder_pour kV_Ladder_pour dc_Ladder_pour pm_Ladder_pour cd_Ladder_pour ct_Ladder_pour oc_ladder_of kV_ladder_of dc_ladder_of pm_ladder_of cd_ladder_of ct_ladder_of oc_is_fed kV_is_fed dc_is_fed pm_is_fed cd_is_fed ct_is_fed oc__law_begun kV__law_begun dc__law_begun pm__law_begun cd__law_begun ct__law_begun oc__law_draw kV__law_draw dc__law_draw pm__law_draw cd__law_draw ct__law_draw oc__law_number kV__law_number dc__law_number pm__law_number cd__law_number ct__law_number oc__law_numbers kV__law_numbers dc__law_numbers pm__law_numbers cd__law_numbers ct__law_numbers oc__law_joined kV__law_joined dc__law_joined pm__law_joined cd__law_joined ct__law_joined oc__law_with kV__law_with dc__law_with pm__law_with cd__law_with ct__law_with oc__law_poured kV__law_poured dc__law_poured pm__law_poured cd__law_poured ct__law_poured oc__law_alike kV__law_alike dc__law_alike pm__law_alike cd__law_alike ct__law_alike oc__law_plain kV__law_plain dc__law_plain pm__law_plain cd__law_plain ct__law_plain oc__law_refused kV__law_refused dc__law_refused pm__law_refused cd__law_refused ct__law_refused oc__law_drawn kV__law_drawn dc__law_drawn pm__law_drawn cd__law_drawn ct__law_drawn oc__law_apart kV__law_apart dc__law_apart pm__law_apart cd__law_apart ct__law_apart oc_law kV_law dc_law pm_law cd_law ct_law : Value}
    (z_isinstance : PySem.W.nsIn K mainGlobals "isinstance" = some none)
    (z_int : PySem.W.nsIn K mainGlobals "int" = some none)
    (z_bool : PySem.W.nsIn K mainGlobals "bool" = some none)
    (z_tuple : PySem.W.nsIn K mainGlobals "tuple" = some none)
    (z_sorted : PySem.W.nsIn K mainGlobals "sorted" = some none)
    (z_len : PySem.W.nsIn K mainGlobals "len" = some none)
    (z_sum : PySem.W.nsIn K mainGlobals "sum" = some none)
    (z_list : PySem.W.nsIn K mainGlobals "list" = some none)
    (z_dict : PySem.W.nsIn K mainGlobals "dict" = some none)
    (z_max : PySem.W.nsIn K mainGlobals "max" = some none)
    (z_abs : PySem.W.nsIn K mainGlobals "abs" = some none)
    (z_range : PySem.W.nsIn K mainGlobals "range" = some none)
    (z_ValueError : PySem.W.nsIn K mainGlobals "ValueError" = some none)
    (z_zip : PySem.W.nsIn K mainGlobals "zip" = some none)
    (a_is_number : PySem.W.nsIn K mainGlobals "is_number" = some (some (.ref f_is_number)))
    (l_is_number : K.lookup f_is_number = some ⟨oc_is_number, od_is_number, .func (PySem.W.fnOf "is_number" "is_number" (defArgs s_is_number) (defBody s_is_number) (defScope s_is_number) .none kV_is_number dc_is_number pm_is_number an_is_number cd_is_number ct_is_number), sl_is_number⟩)
    (c_is_number : PySem.W.codeIn K cd_is_number "is_number" = true)
    (k_is_number : PySem.W.keepIn K (.ref f_is_number) = true)
    (a_as_one : PySem.W.nsIn K mainGlobals "as_one" = some (some (.ref f_as_one)))
    (l_as_one : K.lookup f_as_one = some ⟨oc_as_one, od_as_one, .func (PySem.W.fnOf "as_one" "as_one" (defArgs s_as_one) (defBody s_as_one) (defScope s_as_one) .none kV_as_one dc_as_one pm_as_one an_as_one cd_as_one ct_as_one), sl_as_one⟩)
    (c_as_one : PySem.W.codeIn K cd_as_one "as_one" = true)
    (k_as_one : PySem.W.keepIn K (.ref f_as_one) = true)
    (l_Ladder___init__ : K.lookup f_Ladder___init__ = some ⟨oc_Ladder___init__, od_Ladder___init__, .func (PySem.W.fnOf "__init__" "Ladder.__init__" (defArgs s_Ladder___init__) (defBody s_Ladder___init__) (defScope s_Ladder___init__) .none kV_Ladder___init__ dc_Ladder___init__ pm_Ladder___init__ an_Ladder___init__ cd_Ladder___init__ ct_Ladder___init__), sl_Ladder___init__⟩)
    (c_Ladder___init__ : PySem.W.codeIn K cd_Ladder___init__ "Ladder.__init__" = true)
    (k_Ladder___init__ : PySem.W.keepIn K (.ref f_Ladder___init__) = true)
    (l_Ladder_size : K.lookup f_Ladder_size = some ⟨oc_Ladder_size, od_Ladder_size, .func (PySem.W.fnOf "size" "Ladder.size" (defArgs s_Ladder_size) (defBody s_Ladder_size) (defScope s_Ladder_size) .none kV_Ladder_size dc_Ladder_size pm_Ladder_size an_Ladder_size cd_Ladder_size ct_Ladder_size), sl_Ladder_size⟩)
    (c_Ladder_size : PySem.W.codeIn K cd_Ladder_size "Ladder.size" = true)
    (k_Ladder_size : PySem.W.keepIn K (.ref f_Ladder_size) = true)
    (l_Ladder_loose : K.lookup f_Ladder_loose = some ⟨oc_Ladder_loose, od_Ladder_loose, .func (PySem.W.fnOf "loose" "Ladder.loose" (defArgs s_Ladder_loose) (defBody s_Ladder_loose) (defScope s_Ladder_loose) .none kV_Ladder_loose dc_Ladder_loose pm_Ladder_loose an_Ladder_loose cd_Ladder_loose ct_Ladder_loose), sl_Ladder_loose⟩)
    (c_Ladder_loose : PySem.W.codeIn K cd_Ladder_loose "Ladder.loose" = true)
    (k_Ladder_loose : PySem.W.keepIn K (.ref f_Ladder_loose) = true)
    (l_Ladder_rungs : K.lookup f_Ladder_rungs = some ⟨oc_Ladder_rungs, od_Ladder_rungs, .func (PySem.W.fnOf "rungs" "Ladder.rungs" (defArgs s_Ladder_rungs) (defBody s_Ladder_rungs) (defScope s_Ladder_rungs) .none kV_Ladder_rungs dc_Ladder_rungs pm_Ladder_rungs an_Ladder_rungs cd_Ladder_rungs ct_Ladder_rungs), sl_Ladder_rungs⟩)
    (c_Ladder_rungs : PySem.W.codeIn K cd_Ladder_rungs "Ladder.rungs" = true)
    (k_Ladder_rungs : PySem.W.keepIn K (.ref f_Ladder_rungs) = true)
    (l_Ladder_fed : K.lookup f_Ladder_fed = some ⟨oc_Ladder_fed, od_Ladder_fed, .func (PySem.W.fnOf "fed" "Ladder.fed" (defArgs s_Ladder_fed) (defBody s_Ladder_fed) (defScope s_Ladder_fed) .none kV_Ladder_fed dc_Ladder_fed pm_Ladder_fed an_Ladder_fed cd_Ladder_fed ct_Ladder_fed), sl_Ladder_fed⟩)
    (c_Ladder_fed : PySem.W.codeIn K cd_Ladder_fed "Ladder.fed" = true)
    (k_Ladder_fed : PySem.W.keepIn K (.ref f_Ladder_fed) = true)
    (l_Ladder_twin : K.lookup f_Ladder_twin = some ⟨oc_Ladder_twin, od_Ladder_twin, .func (PySem.W.fnOf "twin" "Ladder.twin" (defArgs s_Ladder_twin) (defBody s_Ladder_twin) (defScope s_Ladder_twin) .none kV_Ladder_twin dc_Ladder_twin pm_Ladder_twin an_Ladder_twin cd_Ladder_twin ct_Ladder_twin), sl_Ladder_twin⟩)
    (c_Ladder_twin : PySem.W.codeIn K cd_Ladder_twin "Ladder.twin" = true)
    (k_Ladder_twin : PySem.W.keepIn K (.ref f_Ladder_twin) = true)
    (l_Ladder___eq__ : K.lookup f_Ladder___eq__ = some ⟨oc_Ladder___eq__, od_Ladder___eq__, .func (PySem.W.fnOf "__eq__" "Ladder.__eq__" (defArgs s_Ladder___eq__) (defBody s_Ladder___eq__) (defScope s_Ladder___eq__) .none kV_Ladder___eq__ dc_Ladder___eq__ pm_Ladder___eq__ an_Ladder___eq__ cd_Ladder___eq__ ct_Ladder___eq__), sl_Ladder___eq__⟩)
    (c_Ladder___eq__ : PySem.W.codeIn K cd_Ladder___eq__ "Ladder.__eq__" = true)
    (k_Ladder___eq__ : PySem.W.keepIn K (.ref f_Ladder___eq__) = true)
    (l_Ladder_feed : K.lookup f_Ladder_feed = some ⟨oc_Ladder_feed, od_Ladder_feed, .func (PySem.W.fnOf "feed" "Ladder.feed" (defArgs s_Ladder_feed) (defBody s_Ladder_feed) (defScope s_Ladder_feed) .none kV_Ladder_feed dc_Ladder_feed pm_Ladder_feed an_Ladder_feed cd_Ladder_feed ct_Ladder_feed), sl_Ladder_feed⟩)
    (c_Ladder_feed : PySem.W.codeIn K cd_Ladder_feed "Ladder.feed" = true)
    (k_Ladder_feed : PySem.W.keepIn K (.ref f_Ladder_feed) = true)
    (l_Ladder_pour : K.lookup f_Ladder_pour = some ⟨oc_Ladder_pour, od_Ladder_pour, .func (PySem.W.fnOf "pour" "Ladder.pour" (defArgs s_Ladder_pour) (defBody s_Ladder_pour) (defScope s_Ladder_pour) .none kV_Ladder_pour dc_Ladder_pour pm_Ladder_pour an_Ladder_pour cd_Ladder_pour ct_Ladder_pour), sl_Ladder_pour⟩)
    (c_Ladder_pour : PySem.W.codeIn K cd_Ladder_pour "Ladder.pour" = true)
    (k_Ladder_pour : PySem.W.keepIn K (.ref f_Ladder_pour) = true)
    (a_ladder_of : PySem.W.nsIn K mainGlobals "ladder_of" = some (some (.ref f_ladder_of)))
    (l_ladder_of : K.lookup f_ladder_of = some ⟨oc_ladder_of, od_ladder_of, .func (PySem.W.fnOf "ladder_of" "ladder_of" (defArgs s_ladder_of) (defBody s_ladder_of) (defScope s_ladder_of) .none kV_ladder_of dc_ladder_of pm_ladder_of an_ladder_of cd_ladder_of ct_ladder_of), sl_ladder_of⟩)
    (c_ladder_of : PySem.W.codeIn K cd_ladder_of "ladder_of" = true)
    (k_ladder_of : PySem.W.keepIn K (.ref f_ladder_of) = true)
    (a_is_fed : PySem.W.nsIn K mainGlobals "is_fed" = some (some (.ref f_is_fed)))
    (l_is_fed : K.lookup f_is_fed = some ⟨oc_is_fed, od_is_fed, .func (PySem.W.fnOf "is_fed" "is_fed" (defArgs s_is_fed) (defBody s_is_fed) (defScope s_is_fed) .none kV_is_fed dc_is_fed pm_is_fed an_is_fed cd_is_fed ct_is_fed), sl_is_fed⟩)
    (c_is_fed : PySem.W.codeIn K cd_is_fed "is_fed" = true)
    (k_is_fed : PySem.W.keepIn K (.ref f_is_fed) = true)
    (a__law_begun : PySem.W.nsIn K mainGlobals "_law_begun" = some (some (.ref f__law_begun)))
    (l__law_begun : K.lookup f__law_begun = some ⟨oc__law_begun, od__law_begun, .func (PySem.W.fnOf "_law_begun" "_law_begun" (defArgs s__law_begun) (defBody s__law_begun) (defScope s__law_begun) .none kV__law_begun dc__law_begun pm__law_begun an__law_begun cd__law_begun ct__law_begun), sl__law_begun⟩)
    (c__law_begun : PySem.W.codeIn K cd__law_begun "_law_begun" = true)
    (k__law_begun : PySem.W.keepIn K (.ref f__law_begun) = true)
    (a__law_draw : PySem.W.nsIn K mainGlobals "_law_draw" = some (some (.ref f__law_draw)))
    (l__law_draw : K.lookup f__law_draw = some ⟨oc__law_draw, od__law_draw, .func (PySem.W.fnOf "_law_draw" "_law_draw" (defArgs s__law_draw) (defBody s__law_draw) (defScope s__law_draw) .none kV__law_draw dc__law_draw pm__law_draw an__law_draw cd__law_draw ct__law_draw), sl__law_draw⟩)
    (c__law_draw : PySem.W.codeIn K cd__law_draw "_law_draw" = true)
    (k__law_draw : PySem.W.keepIn K (.ref f__law_draw) = true)
    (a__law_number : PySem.W.nsIn K mainGlobals "_law_number" = some (some (.ref f__law_number)))
    (l__law_number : K.lookup f__law_number = some ⟨oc__law_number, od__law_number, .func (PySem.W.fnOf "_law_number" "_law_number" (defArgs s__law_number) (defBody s__law_number) (defScope s__law_number) .none kV__law_number dc__law_number pm__law_number an__law_number cd__law_number ct__law_number), sl__law_number⟩)
    (c__law_number : PySem.W.codeIn K cd__law_number "_law_number" = true)
    (k__law_number : PySem.W.keepIn K (.ref f__law_number) = true)
    (a__law_numbers : PySem.W.nsIn K mainGlobals "_law_numbers" = some (some (.ref f__law_numbers)))
    (l__law_numbers : K.lookup f__law_numbers = some ⟨oc__law_numbers, od__law_numbers, .func (PySem.W.fnOf "_law_numbers" "_law_numbers" (defArgs s__law_numbers) (defBody s__law_numbers) (defScope s__law_numbers) .none kV__law_numbers dc__law_numbers pm__law_numbers an__law_numbers cd__law_numbers ct__law_numbers), sl__law_numbers⟩)
    (c__law_numbers : PySem.W.codeIn K cd__law_numbers "_law_numbers" = true)
    (k__law_numbers : PySem.W.keepIn K (.ref f__law_numbers) = true)
    (a__law_joined : PySem.W.nsIn K mainGlobals "_law_joined" = some (some (.ref f__law_joined)))
    (l__law_joined : K.lookup f__law_joined = some ⟨oc__law_joined, od__law_joined, .func (PySem.W.fnOf "_law_joined" "_law_joined" (defArgs s__law_joined) (defBody s__law_joined) (defScope s__law_joined) .none kV__law_joined dc__law_joined pm__law_joined an__law_joined cd__law_joined ct__law_joined), sl__law_joined⟩)
    (c__law_joined : PySem.W.codeIn K cd__law_joined "_law_joined" = true)
    (k__law_joined : PySem.W.keepIn K (.ref f__law_joined) = true)
    (a__law_with : PySem.W.nsIn K mainGlobals "_law_with" = some (some (.ref f__law_with)))
    (l__law_with : K.lookup f__law_with = some ⟨oc__law_with, od__law_with, .func (PySem.W.fnOf "_law_with" "_law_with" (defArgs s__law_with) (defBody s__law_with) (defScope s__law_with) .none kV__law_with dc__law_with pm__law_with an__law_with cd__law_with ct__law_with), sl__law_with⟩)
    (c__law_with : PySem.W.codeIn K cd__law_with "_law_with" = true)
    (k__law_with : PySem.W.keepIn K (.ref f__law_with) = true)
    (a__law_poured : PySem.W.nsIn K mainGlobals "_law_poured" = some (some (.ref f__law_poured)))
    (l__law_poured : K.lookup f__law_poured = some ⟨oc__law_poured, od__law_poured, .func (PySem.W.fnOf "_law_poured" "_law_poured" (defArgs s__law_poured) (defBody s__law_poured) (defScope s__law_poured) .none kV__law_poured dc__law_poured pm__law_poured an__law_poured cd__law_poured ct__law_poured), sl__law_poured⟩)
    (c__law_poured : PySem.W.codeIn K cd__law_poured "_law_poured" = true)
    (k__law_poured : PySem.W.keepIn K (.ref f__law_poured) = true)
    (a__law_alike : PySem.W.nsIn K mainGlobals "_law_alike" = some (some (.ref f__law_alike)))
    (l__law_alike : K.lookup f__law_alike = some ⟨oc__law_alike, od__law_alike, .func (PySem.W.fnOf "_law_alike" "_law_alike" (defArgs s__law_alike) (defBody s__law_alike) (defScope s__law_alike) .none kV__law_alike dc__law_alike pm__law_alike an__law_alike cd__law_alike ct__law_alike), sl__law_alike⟩)
    (c__law_alike : PySem.W.codeIn K cd__law_alike "_law_alike" = true)
    (k__law_alike : PySem.W.keepIn K (.ref f__law_alike) = true)
    (a__law_plain : PySem.W.nsIn K mainGlobals "_law_plain" = some (some (.ref f__law_plain)))
    (l__law_plain : K.lookup f__law_plain = some ⟨oc__law_plain, od__law_plain, .func (PySem.W.fnOf "_law_plain" "_law_plain" (defArgs s__law_plain) (defBody s__law_plain) (defScope s__law_plain) .none kV__law_plain dc__law_plain pm__law_plain an__law_plain cd__law_plain ct__law_plain), sl__law_plain⟩)
    (c__law_plain : PySem.W.codeIn K cd__law_plain "_law_plain" = true)
    (k__law_plain : PySem.W.keepIn K (.ref f__law_plain) = true)
    (a__law_refused : PySem.W.nsIn K mainGlobals "_law_refused" = some (some (.ref f__law_refused)))
    (l__law_refused : K.lookup f__law_refused = some ⟨oc__law_refused, od__law_refused, .func (PySem.W.fnOf "_law_refused" "_law_refused" (defArgs s__law_refused) (defBody s__law_refused) (defScope s__law_refused) .none kV__law_refused dc__law_refused pm__law_refused an__law_refused cd__law_refused ct__law_refused), sl__law_refused⟩)
    (c__law_refused : PySem.W.codeIn K cd__law_refused "_law_refused" = true)
    (k__law_refused : PySem.W.keepIn K (.ref f__law_refused) = true)
    (a__law_drawn : PySem.W.nsIn K mainGlobals "_law_drawn" = some (some (.ref f__law_drawn)))
    (l__law_drawn : K.lookup f__law_drawn = some ⟨oc__law_drawn, od__law_drawn, .func (PySem.W.fnOf "_law_drawn" "_law_drawn" (defArgs s__law_drawn) (defBody s__law_drawn) (defScope s__law_drawn) .none kV__law_drawn dc__law_drawn pm__law_drawn an__law_drawn cd__law_drawn ct__law_drawn), sl__law_drawn⟩)
    (c__law_drawn : PySem.W.codeIn K cd__law_drawn "_law_drawn" = true)
    (k__law_drawn : PySem.W.keepIn K (.ref f__law_drawn) = true)
    (a__law_apart : PySem.W.nsIn K mainGlobals "_law_apart" = some (some (.ref f__law_apart)))
    (l__law_apart : K.lookup f__law_apart = some ⟨oc__law_apart, od__law_apart, .func (PySem.W.fnOf "_law_apart" "_law_apart" (defArgs s__law_apart) (defBody s__law_apart) (defScope s__law_apart) .none kV__law_apart dc__law_apart pm__law_apart an__law_apart cd__law_apart ct__law_apart), sl__law_apart⟩)
    (c__law_apart : PySem.W.codeIn K cd__law_apart "_law_apart" = true)
    (k__law_apart : PySem.W.keepIn K (.ref f__law_apart) = true)
    (a_law : PySem.W.nsIn K mainGlobals "law" = some (some (.ref f_law)))
    (l_law : K.lookup f_law = some ⟨oc_law, od_law, .func (PySem.W.fnOf "law" "law" (defArgs s_law) (defBody s_law) (defScope s_law) .none kV_law dc_law pm_law an_law cd_law ct_law), sl_law⟩)
    (c_law : PySem.W.codeIn K cd_law "law" = true)
    (k_law : PySem.W.keepIn K (.ref f_law) = true)
    (ac_Ladder : PySem.W.nsIn K mainGlobals "Ladder" = some (some (.ref c_Ladder)))
    (pg_Ladder : PySem.W.plainGet K c_Ladder Str.empty = true)
    (hd_Ladder : PySem.W.hasDictIn K c_Ladder = true)
    (po_Ladder : PySem.W.plainOver K c_Ladder = true)
    (sa_Ladder : PySem.W.findIn K (.ref c_Ladder) "__setattr__" = some (some (.builtin "object.__setattr__")))
    (mk_Ladder : PySem.W.makesIn K c_Ladder = true)
    (kc_Ladder : PySem.W.keepIn K (.ref c_Ladder) = true)
    (ia_Ladder : PySem.W.findIn K (.ref c_Ladder) "__class__" = some (some (.builtin "object.__class__")))
    (ib_Ladder : PySem.W.specialIn K (.builtin "object.__class__") "__get__" = some (some (.builtin "getset_descriptor.__get__")))
    (ic_Ladder : PySem.W.takesIn K (.builtin "object.__class__") = some true)
    (id_Ladder : PySem.W.mroIn K c_Ladder (.type "object") = some true)
    (ie_Ladder : PySem.W.kitOne K (.ref c_Ladder) (.ref c_Ladder) = some true)
    (n_wide_Ladder : PySem.W.findIn K (.ref c_Ladder) "wide" = some none)
    (n_free_Ladder : PySem.W.findIn K (.ref c_Ladder) "free" = some none)
    (n_steps_Ladder : PySem.W.findIn K (.ref c_Ladder) "steps" = some none)
    (t_Ladder___init__ : PySem.W.findIn K (.ref c_Ladder) "__init__" = some (some (.ref f_Ladder___init__)))
    (i_Ladder___init__ : PySem.W.isFn K (.ref f_Ladder___init__) = true)
    (t_Ladder_size : PySem.W.findIn K (.ref c_Ladder) "size" = some (some (.ref f_Ladder_size)))
    (i_Ladder_size : PySem.W.isFn K (.ref f_Ladder_size) = true)
    (t_Ladder_loose : PySem.W.findIn K (.ref c_Ladder) "loose" = some (some (.ref f_Ladder_loose)))
    (i_Ladder_loose : PySem.W.isFn K (.ref f_Ladder_loose) = true)
    (t_Ladder_rungs : PySem.W.findIn K (.ref c_Ladder) "rungs" = some (some (.ref f_Ladder_rungs)))
    (i_Ladder_rungs : PySem.W.isFn K (.ref f_Ladder_rungs) = true)
    (t_Ladder_fed : PySem.W.findIn K (.ref c_Ladder) "fed" = some (some (.ref f_Ladder_fed)))
    (i_Ladder_fed : PySem.W.isFn K (.ref f_Ladder_fed) = true)
    (t_Ladder_twin : PySem.W.findIn K (.ref c_Ladder) "twin" = some (some (.ref f_Ladder_twin)))
    (i_Ladder_twin : PySem.W.isFn K (.ref f_Ladder_twin) = true)
    (t_Ladder___eq__ : PySem.W.findIn K (.ref c_Ladder) "__eq__" = some (some (.ref f_Ladder___eq__)))
    (i_Ladder___eq__ : PySem.W.isFn K (.ref f_Ladder___eq__) = true)
    (t_Ladder_feed : PySem.W.findIn K (.ref c_Ladder) "feed" = some (some (.ref f_Ladder_feed)))
    (i_Ladder_feed : PySem.W.isFn K (.ref f_Ladder_feed) = true)
    (t_Ladder_pour : PySem.W.findIn K (.ref c_Ladder) "pour" = some (some (.ref f_Ladder_pour)))
    (i_Ladder_pour : PySem.W.isFn K (.ref f_Ladder_pour) = true)
    (nk_Ladder_0 : PySem.W.kitOne K (.type "NoneType") (.ref c_Ladder) = some false)
    (nk_Ladder_1 : PySem.W.kitOne K (.type "int") (.ref c_Ladder) = some false)
    (nk_Ladder_2 : PySem.W.kitOne K (.type "list") (.ref c_Ladder) = some false)
    (nk_Ladder_3 : PySem.W.kitOne K (.type "dict") (.ref c_Ladder) = some false)
    (ac_LeftError : PySem.W.nsIn K mainGlobals "LeftError" = some (some (.ref c_LeftError)))
    (ac_NoKeeper : PySem.W.nsIn K mainGlobals "NoKeeper" = some (some (.ref c_NoKeeper)))
    (ac_NoNumber : PySem.W.nsIn K mainGlobals "NoNumber" = some (some (.ref c_NoNumber)))
    (ac_NoSize : PySem.W.nsIn K mainGlobals "NoSize" = some (some (.ref c_NoSize)))
    (xk_NoKeeper : PySem.W.keepIn K (.ref c_NoKeeper) = true)
    (xq_NoKeeper : PySem.W.excIn K c_NoKeeper [.type "ValueError", .type "Exception", .type "BaseException", .type "object"] "ValueError.__new__" = true)
    (xs_NoKeeper : PySem.W.subIn K (.ref c_NoKeeper) (.type "BaseException") = some true)
    (xt_NoKeeper : PySem.W.typeIn K (.ref c_NoKeeper) = some (.type "type"))
    (xi_NoKeeper : PySem.W.isClsIn K c_NoKeeper = true)
    (xu_NoKeeper : PySem.W.subIn K (.ref c_NoKeeper) (.ref c_NoKeeper) = some true)
    (xg_NoKeeper : PySem.W.findIn K (.ref c_NoKeeper) "__getattribute__" = some (some (.builtin "BaseException.__getattribute__")))
    (xh_NoKeeper : PySem.W.findIn K (.ref c_NoKeeper) "__getattr__" = some none)
    (xd_NoKeeper : PySem.W.hasDictIn K c_NoKeeper = true)
    (xa_NoKeeper : PySem.W.findIn K (.ref c_NoKeeper) "__class__" = some (some (.builtin "object.__class__")))
    (xn_NoKeeper : PySem.W.specialIn K (.builtin "object.__class__") "__get__" = some (some (.builtin "getset_descriptor.__get__")))
    (xw_NoKeeper : PySem.W.takesIn K (.builtin "object.__class__") = some true)
    (xm_NoKeeper : PySem.W.mroIn K c_NoKeeper (.type "object") = some true)
    (xv_NoKeeper : PySem.W.subIn K (.ref c_NoKeeper) (.type "ValueError") = some true)
    (xk_NoNumber : PySem.W.keepIn K (.ref c_NoNumber) = true)
    (xq_NoNumber : PySem.W.excIn K c_NoNumber [.type "ValueError", .type "Exception", .type "BaseException", .type "object"] "ValueError.__new__" = true)
    (xs_NoNumber : PySem.W.subIn K (.ref c_NoNumber) (.type "BaseException") = some true)
    (xt_NoNumber : PySem.W.typeIn K (.ref c_NoNumber) = some (.type "type"))
    (xi_NoNumber : PySem.W.isClsIn K c_NoNumber = true)
    (xu_NoNumber : PySem.W.subIn K (.ref c_NoNumber) (.ref c_NoNumber) = some true)
    (xg_NoNumber : PySem.W.findIn K (.ref c_NoNumber) "__getattribute__" = some (some (.builtin "BaseException.__getattribute__")))
    (xh_NoNumber : PySem.W.findIn K (.ref c_NoNumber) "__getattr__" = some none)
    (xd_NoNumber : PySem.W.hasDictIn K c_NoNumber = true)
    (xa_NoNumber : PySem.W.findIn K (.ref c_NoNumber) "__class__" = some (some (.builtin "object.__class__")))
    (xn_NoNumber : PySem.W.specialIn K (.builtin "object.__class__") "__get__" = some (some (.builtin "getset_descriptor.__get__")))
    (xw_NoNumber : PySem.W.takesIn K (.builtin "object.__class__") = some true)
    (xm_NoNumber : PySem.W.mroIn K c_NoNumber (.type "object") = some true)
    (xv_NoNumber : PySem.W.subIn K (.ref c_NoNumber) (.type "ValueError") = some true)
    (xk_NoSize : PySem.W.keepIn K (.ref c_NoSize) = true)
    (xq_NoSize : PySem.W.excIn K c_NoSize [.type "ValueError", .type "Exception", .type "BaseException", .type "object"] "ValueError.__new__" = true)
    (xs_NoSize : PySem.W.subIn K (.ref c_NoSize) (.type "BaseException") = some true)
    (xt_NoSize : PySem.W.typeIn K (.ref c_NoSize) = some (.type "type"))
    (xi_NoSize : PySem.W.isClsIn K c_NoSize = true)
    (xu_NoSize : PySem.W.subIn K (.ref c_NoSize) (.ref c_NoSize) = some true)
    (xg_NoSize : PySem.W.findIn K (.ref c_NoSize) "__getattribute__" = some (some (.builtin "BaseException.__getattribute__")))
    (xh_NoSize : PySem.W.findIn K (.ref c_NoSize) "__getattr__" = some none)
    (xd_NoSize : PySem.W.hasDictIn K c_NoSize = true)
    (xa_NoSize : PySem.W.findIn K (.ref c_NoSize) "__class__" = some (some (.builtin "object.__class__")))
    (xn_NoSize : PySem.W.specialIn K (.builtin "object.__class__") "__get__" = some (some (.builtin "getset_descriptor.__get__")))
    (xw_NoSize : PySem.W.takesIn K (.builtin "object.__class__") = some true)
    (xm_NoSize : PySem.W.mroIn K c_NoSize (.type "object") = some true)
    (xv_NoSize : PySem.W.subIn K (.ref c_NoSize) (.type "ValueError") = some true)
    (zs_LeftError : PySem.W.subIn K (.ref c_LeftError) (.type "BaseException") = some true)
    (zd_LeftError : PySem.W.hasDictIn K c_LeftError = true)
    (zt_LeftError : PySem.W.typeIn K (.ref c_LeftError) = some (.type "type"))
    (zl_NoKeeper : PySem.W.subIn K (.ref c_NoKeeper) (.ref c_LeftError) = some true)
    (kk_NoKeeper_NoKeeper : PySem.W.kitOne K (.ref c_NoKeeper) (.ref c_NoKeeper) = some true)
    (gc_GREATEST : PySem.W.nsIn K mainGlobals "GREATEST" = some (some (.int 1000000 tc_GREATEST))) :
    ∃ fd : FuncData, (∀ (s : Shared) (v : Value), BindsTo s fd ⟨[v], []⟩ [("_law_script", v)]) ∧ ∀ base : Heap, K.In base → base.Ns mainGlobals mg → FnOk l.prog w K mg base CX0 5 fa fd ["_law_script"] (sp_law K) := by
  have e := hfa.symm.trans (PySem.W.mg_of X G a_law)
  cases e
  have F_is_number := fun_mk (st := s_is_number) l_is_number c_is_number k_is_number
  have F_as_one := fun_mk (st := s_as_one) l_as_one c_as_one k_as_one
  have F_Ladder___init__ := fun_mk (st := s_Ladder___init__) l_Ladder___init__ c_Ladder___init__ k_Ladder___init__
  have F_Ladder_size := fun_mk (st := s_Ladder_size) l_Ladder_size c_Ladder_size k_Ladder_size
  have F_Ladder_loose := fun_mk (st := s_Ladder_loose) l_Ladder_loose c_Ladder_loose k_Ladder_loose
  have F_Ladder_rungs := fun_mk (st := s_Ladder_rungs) l_Ladder_rungs c_Ladder_rungs k_Ladder_rungs
  have F_Ladder_fed := fun_mk (st := s_Ladder_fed) l_Ladder_fed c_Ladder_fed k_Ladder_fed
  have F_Ladder_twin := fun_mk (st := s_Ladder_twin) l_Ladder_twin c_Ladder_twin k_Ladder_twin
  have F_Ladder___eq__ := fun_mk (st := s_Ladder___eq__) l_Ladder___eq__ c_Ladder___eq__ k_Ladder___eq__
  have F_Ladder_feed := fun_mk (st := s_Ladder_feed) l_Ladder_feed c_Ladder_feed k_Ladder_feed
  have F_Ladder_pour := fun_mk (st := s_Ladder_pour) l_Ladder_pour c_Ladder_pour k_Ladder_pour
  have F_ladder_of := fun_mk (st := s_ladder_of) l_ladder_of c_ladder_of k_ladder_of
  have F_is_fed := fun_mk (st := s_is_fed) l_is_fed c_is_fed k_is_fed
  have F__law_begun := fun_mk (st := s__law_begun) l__law_begun c__law_begun k__law_begun
  have F__law_draw := fun_mk (st := s__law_draw) l__law_draw c__law_draw k__law_draw
  have F__law_number := fun_mk (st := s__law_number) l__law_number c__law_number k__law_number
  have F__law_numbers := fun_mk (st := s__law_numbers) l__law_numbers c__law_numbers k__law_numbers
  have F__law_joined := fun_mk (st := s__law_joined) l__law_joined c__law_joined k__law_joined
  have F__law_with := fun_mk (st := s__law_with) l__law_with c__law_with k__law_with
  have F__law_poured := fun_mk (st := s__law_poured) l__law_poured c__law_poured k__law_poured
  have F__law_alike := fun_mk (st := s__law_alike) l__law_alike c__law_alike k__law_alike
  have F__law_plain := fun_mk (st := s__law_plain) l__law_plain c__law_plain k__law_plain
  have F__law_refused := fun_mk (st := s__law_refused) l__law_refused c__law_refused k__law_refused
  have F__law_drawn := fun_mk (st := s__law_drawn) l__law_drawn c__law_drawn k__law_drawn
  have F__law_apart := fun_mk (st := s__law_apart) l__law_apart c__law_apart k__law_apart
  have F_law := fun_mk (st := s_law) l_law c_law k_law
  have re_NoKeeper : BX.ErrC K (cErr K "NoKeeper") := by
    rw [cErr_of ac_NoKeeper]
    exact ⟨xk_NoKeeper, xq_NoKeeper, xs_NoKeeper, xt_NoKeeper, BX.exm_self xs_NoKeeper xi_NoKeeper xt_NoKeeper xu_NoKeeper, ⟨xg_NoKeeper, xh_NoKeeper, xs_NoKeeper, xd_NoKeeper, xa_NoKeeper, xn_NoKeeper, xw_NoKeeper, xm_NoKeeper⟩, BX.kit_ve (by decide +kernel) xv_NoKeeper⟩
  have re_NoNumber : BX.ErrC K (cErr K "NoNumber") := by
    rw [cErr_of ac_NoNumber]
    exact ⟨xk_NoNumber, xq_NoNumber, xs_NoNumber, xt_NoNumber, BX.exm_self xs_NoNumber xi_NoNumber xt_NoNumber xu_NoNumber, ⟨xg_NoNumber, xh_NoNumber, xs_NoNumber, xd_NoNumber, xa_NoNumber, xn_NoNumber, xw_NoNumber, xm_NoNumber⟩, BX.kit_ve (by decide +kernel) xv_NoNumber⟩
  have re_NoSize : BX.ErrC K (cErr K "NoSize") := by
    rw [cErr_of ac_NoSize]
    exact ⟨xk_NoSize, xq_NoSize, xs_NoSize, xt_NoSize, BX.exm_self xs_NoSize xi_NoSize xt_NoSize xu_NoSize, ⟨xg_NoSize, xh_NoSize, xs_NoSize, xd_NoSize, xa_NoSize, xn_NoSize, xw_NoSize, xm_NoSize⟩, BX.kit_ve (by decide +kernel) xv_NoSize⟩
  let T : Tx K mg := {
    m_isinstance := PySem.W.mg_none_of X G z_isinstance
    m_int := PySem.W.mg_none_of X G z_int
    m_bool := PySem.W.mg_none_of X G z_bool
    m_tuple := PySem.W.mg_none_of X G z_tuple
    m_sorted := PySem.W.mg_none_of X G z_sorted
    m_len := PySem.W.mg_none_of X G z_len
    m_sum := PySem.W.mg_none_of X G z_sum
    m_list := PySem.W.mg_none_of X G z_list
    m_dict := PySem.W.mg_none_of X G z_dict
    m_max := PySem.W.mg_none_of X G z_max
    m_abs := PySem.W.mg_none_of X G z_abs
    m_range := PySem.W.mg_none_of X G z_range
    m_ValueError := PySem.W.mg_none_of X G z_ValueError
    m_zip := PySem.W.mg_none_of X G z_zip
    f_is_number := f_is_number
    d_is_number := _
    F_is_number := F_is_number
    b_is_number := F_is_number.binds (ps := ["thing"]) fun _ _ _ _ _ _ us hl => match us, hl with | [_], _ => rfl
    g_is_number := PySem.W.mg_of X G a_is_number
    f_as_one := f_as_one
    d_as_one := _
    F_as_one := F_as_one
    b_as_one := F_as_one.binds (ps := ["one", "other"]) fun _ _ _ _ _ _ us hl => match us, hl with | [_, _], _ => rfl
    g_as_one := PySem.W.mg_of X G a_as_one
    f_Ladder___init__ := f_Ladder___init__
    d_Ladder___init__ := _
    F_Ladder___init__ := F_Ladder___init__
    b_Ladder___init__ := F_Ladder___init__.binds (ps := ["self", "size"]) fun _ _ _ _ _ _ us hl => match us, hl with | [_, _], _ => rfl
    f_Ladder_size := f_Ladder_size
    d_Ladder_size := _
    F_Ladder_size := F_Ladder_size
    b_Ladder_size := F_Ladder_size.binds (ps := ["self"]) fun _ _ _ _ _ _ us hl => match us, hl with | [_], _ => rfl
    f_Ladder_loose := f_Ladder_loose
    d_Ladder_loose := _
    F_Ladder_loose := F_Ladder_loose
    b_Ladder_loose := F_Ladder_loose.binds (ps := ["self"]) fun _ _ _ _ _ _ us hl => match us, hl with | [_], _ => rfl
    f_Ladder_rungs := f_Ladder_rungs
    d_Ladder_rungs := _
    F_Ladder_rungs := F_Ladder_rungs
    b_Ladder_rungs := F_Ladder_rungs.binds (ps := ["self"]) fun _ _ _ _ _ _ us hl => match us, hl with | [_], _ => rfl
    f_Ladder_fed := f_Ladder_fed
    d_Ladder_fed := _
    F_Ladder_fed := F_Ladder_fed
    b_Ladder_fed := F_Ladder_fed.binds (ps := ["self"]) fun _ _ _ _ _ _ us hl => match us, hl with | [_], _ => rfl
    f_Ladder_twin := f_Ladder_twin
    d_Ladder_twin := _
    F_Ladder_twin := F_Ladder_twin
    b_Ladder_twin := F_Ladder_twin.binds (ps := ["self"]) fun _ _ _ _ _ _ us hl => match us, hl with | [_], _ => rfl
    f_Ladder___eq__ := f_Ladder___eq__
    d_Ladder___eq__ := _
    F_Ladder___eq__ := F_Ladder___eq__
    b_Ladder___eq__ := F_Ladder___eq__.binds (ps := ["self", "other"]) fun _ _ _ _ _ _ us hl => match us, hl with | [_, _], _ => rfl
    f_Ladder_feed := f_Ladder_feed
    d_Ladder_feed := _
    F_Ladder_feed := F_Ladder_feed
    b_Ladder_feed := F_Ladder_feed.binds (ps := ["self", "number"]) fun _ _ _ _ _ _ us hl => match us, hl with | [_, _], _ => rfl
    f_Ladder_pour := f_Ladder_pour
    d_Ladder_pour := _
    F_Ladder_pour := F_Ladder_pour
    b_Ladder_pour := F_Ladder_pour.binds (ps := ["self", "other"]) fun _ _ _ _ _ _ us hl => match us, hl with | [_, _], _ => rfl
    f_ladder_of := f_ladder_of
    d_ladder_of := _
    F_ladder_of := F_ladder_of
    b_ladder_of := F_ladder_of.binds (ps := ["size", "numbers"]) fun _ _ _ _ _ _ us hl => match us, hl with | [_, _], _ => rfl
    g_ladder_of := PySem.W.mg_of X G a_ladder_of
    f_is_fed := f_is_fed
    d_is_fed := _
    F_is_fed := F_is_fed
    b_is_fed := F_is_fed.binds (ps := ["ladder", "thing"]) fun _ _ _ _ _ _ us hl => match us, hl with | [_, _], _ => rfl
    g_is_fed := PySem.W.mg_of X G a_is_fed
    f__law_begun := f__law_begun
    d__law_begun := _
    F__law_begun := F__law_begun
    b__law_begun := F__law_begun.binds (ps := ["_law_script"]) fun _ _ _ _ _ _ us hl => match us, hl with | [_], _ => rfl
    g__law_begun := PySem.W.mg_of X G a__law_begun
    f__law_draw := f__law_draw
    d__law_draw := _
    F__law_draw := F__law_draw
    b__law_draw := F__law_draw.binds (ps := ["_law_state", "_law_many"]) fun _ _ _ _ _ _ us hl => match us, hl with | [_, _], _ => rfl
    g__law_draw := PySem.W.mg_of X G a__law_draw
    f__law_number := f__law_number
    d__law_number := _
    F__law_number := F__law_number
    b__law_number := F__law_number.binds (ps := ["_law_state", "_law_way", "_law_base"]) fun _ _ _ _ _ _ us hl => match us, hl with | [_, _, _], _ => rfl
    g__law_number := PySem.W.mg_of X G a__law_number
    f__law_numbers := f__law_numbers
    d__law_numbers := _
    F__law_numbers := F__law_numbers
    b__law_numbers := F__law_numbers.binds (ps := ["_law_state", "_law_many"]) fun _ _ _ _ _ _ us hl => match us, hl with | [_, _], _ => rfl
    g__law_numbers := PySem.W.mg_of X G a__law_numbers
    f__law_joined := f__law_joined
    d__law_joined := _
    F__law_joined := F__law_joined
    b__law_joined := F__law_joined.binds (ps := ["_law_one", "_law_another"]) fun _ _ _ _ _ _ us hl => match us, hl with | [_, _], _ => rfl
    g__law_joined := PySem.W.mg_of X G a__law_joined
    f__law_with := f__law_with
    d__law_with := _
    F__law_with := F__law_with
    b__law_with := F__law_with.binds (ps := ["_law_left", "_law_wide", "_law_number_here"]) fun _ _ _ _ _ _ us hl => match us, hl with | [_, _, _], _ => rfl
    g__law_with := PySem.W.mg_of X G a__law_with
    f__law_poured := f__law_poured
    d__law_poured := _
    F__law_poured := F__law_poured
    b__law_poured := F__law_poured.binds (ps := ["_law_one", "_law_another", "_law_wide"]) fun _ _ _ _ _ _ us hl => match us, hl with | [_, _, _], _ => rfl
    g__law_poured := PySem.W.mg_of X G a__law_poured
    f__law_alike := f__law_alike
    d__law_alike := _
    F__law_alike := F__law_alike
    b__law_alike := F__law_alike.binds (ps := ["_law_ladder", "_law_left"]) fun _ _ _ _ _ _ us hl => match us, hl with | [_, _], _ => rfl
    g__law_alike := PySem.W.mg_of X G a__law_alike
    f__law_plain := f__law_plain
    d__law_plain := _
    F__law_plain := F__law_plain
    b__law_plain := F__law_plain.binds (ps := ["_law_ladder"]) fun _ _ _ _ _ _ us hl => match us, hl with | [_], _ => rfl
    g__law_plain := PySem.W.mg_of X G a__law_plain
    f__law_refused := f__law_refused
    d__law_refused := _
    F__law_refused := F__law_refused
    b__law_refused := F__law_refused.binds (ps := ["_law_ladder", "_law_thing"]) fun _ _ _ _ _ _ us hl => match us, hl with | [_, _], _ => rfl
    g__law_refused := PySem.W.mg_of X G a__law_refused
    f__law_drawn := f__law_drawn
    d__law_drawn := _
    F__law_drawn := F__law_drawn
    b__law_drawn := F__law_drawn.binds (ps := ["_law_state", "_law_wide", "_law_great"]) fun _ _ _ _ _ _ us hl => match us, hl with | [_, _, _], _ => rfl
    g__law_drawn := PySem.W.mg_of X G a__law_drawn
    f__law_apart := f__law_apart
    d__law_apart := _
    F__law_apart := F__law_apart
    b__law_apart := F__law_apart.binds (ps := ["_law_made", "_law_twins", "_law_wide", "_law_extra"]) fun _ _ _ _ _ _ us hl => match us, hl with | [_, _, _, _], _ => rfl
    g__law_apart := PySem.W.mg_of X G a__law_apart
    f_law := fa
    d_law := _
    F_law := F_law
    K_Ladder := ⟨mk_Ladder, t_Ladder___init__, i_Ladder___init__, kc_Ladder⟩
    M_Ladder_size := ⟨t_Ladder_size, i_Ladder_size, k_Ladder_size⟩
    M_Ladder_loose := ⟨t_Ladder_loose, i_Ladder_loose, k_Ladder_loose⟩
    M_Ladder_rungs := ⟨t_Ladder_rungs, i_Ladder_rungs, k_Ladder_rungs⟩
    M_Ladder_fed := ⟨t_Ladder_fed, i_Ladder_fed, k_Ladder_fed⟩
    M_Ladder_twin := ⟨t_Ladder_twin, i_Ladder_twin, k_Ladder_twin⟩
    M_Ladder___eq__ := ⟨t_Ladder___eq__, i_Ladder___eq__, k_Ladder___eq__⟩
    M_Ladder_feed := ⟨t_Ladder_feed, i_Ladder_feed, k_Ladder_feed⟩
    M_Ladder_pour := ⟨t_Ladder_pour, i_Ladder_pour, k_Ladder_pour⟩
    c_Ladder := c_Ladder
    g_Ladder := PySem.W.mg_of X G ac_Ladder
    rc_Ladder := ⟨⟨⟨pg_Ladder, hd_Ladder, po_Ladder, sa_Ladder⟩, ia_Ladder, ib_Ladder, ic_Ladder, id_Ladder, ie_Ladder⟩, n_wide_Ladder, n_free_Ladder, n_steps_Ladder⟩
    nk_Ladder := ⟨nk_Ladder_0, nk_Ladder_1, nk_Ladder_2, nk_Ladder_3⟩
    g_NoKeeper := by
      rw [cErr_of ac_NoKeeper]
      exact PySem.W.mg_of X G ac_NoKeeper
    g_NoNumber := by
      rw [cErr_of ac_NoNumber]
      exact PySem.W.mg_of X G ac_NoNumber
    g_NoSize := by
      rw [cErr_of ac_NoSize]
      exact PySem.W.mg_of X G ac_NoSize
    rc_NoKeeper := re_NoKeeper
    rc_NoNumber := re_NoNumber
    rc_NoSize := re_NoSize
    rf_NoKeeper := ⟨re_NoKeeper, by rw [cErr_of ac_NoKeeper, cErr_of ac_LeftError]; exact PySem.W.exm_ref zs_LeftError zd_LeftError zt_LeftError zl_NoKeeper, refd_mk ["NoKeeper"] ⟨by rw [cErr_of ac_NoKeeper]; exact kk_NoKeeper_NoKeeper.trans (by decide +kernel), trivial⟩⟩
    xe_NoKeeper := by
      rw [cErr_of ac_NoKeeper]
      exact PySem.W.exm_ref xs_NoKeeper xd_NoKeeper xt_NoKeeper xu_NoKeeper
    u_GREATEST := tc_GREATEST
    h_GREATEST := PySem.W.mg_of X G gc_GREATEST
    km_Ladder_pour_other := kwm_mk F_Ladder_pour fun _ _ _ _ _ _ _ us hl => match us, hl with | [_], _ => rfl }
  exact ⟨T.d_law, fun s v => .of_eq rfl, fun base _ _ => ok_law T⟩
theorem walk {l : PySem.W.OpenLaw} {q : Program} {loose : List Str} {XP : (Str → Option Value) → Heap → Prop} {YP : World → Heap → Prop} {d : DefRec} {K : Params → PySem.W.Frag} (hn : l.most = some 63) (hdf : d.params.defaults = [])
    (hY : ∀ (w : World) (h : Heap), YP w h → (K w.params).In h)
    (F : ∀ (w : World) (mg : Str → Option Value) (fa : Addr) (h : Heap), (K w.params).In h → h.Ns mainGlobals mg → mg d.name = some (.ref fa) →
      ∃ fd : FuncData, (∀ (s : Shared) (u : Value), BindsTo s fd ⟨[u], []⟩ [("_law_script", u)]) ∧ ∀ base : Heap, (K w.params).In base → base.Ns mainGlobals mg → FnOk l.prog w (K w.params) mg base CX0 5 fa fd ["_law_script"] (sp_law (K w.params))) :
    PySem.W.WalkO q loose XP YP l.row.toRowW d [] (fun f vs => PySem.call f vs) :=
  L2.walk_of (n := 63) (k := 5) (x := "_law_script") (CX := fun _ => CX0) (sp := fun w => sp_law (K w.params)) hn (by decide) hdf ⟨rfl, by decide, by decide⟩ hY F (fun _ _ a ns hl _ hS => law_in a ns hl hS) fun _ _ _ _ _ z => z

end B
open PySem PySem.W PyProof.Rows
set_option maxRecDepth 100000 in
set_option maxHeartbeats 0 in
theorem PySem.Challenge.cw_bygone_k51_ladders_poured_holds : PySem.Challenge.rw_bygone_k51_ladders_poured.Holds := by
  w_on; o_law; k_head; (case hw => w_witness2)
  k_fill
  refine B.walk (l := PySem.Challenge.rw_bygone_k51_ladders_poured) rfl rfl (fun w h Y => PySem.W.kIn_of Y) ?F
  case F =>
    intro w mg fa h KX G hmg
    refine' B.all_mk KX G hmg ?z_isinstance ?z_int ?z_bool ?z_tuple ?z_sorted ?z_len ?z_sum ?z_list ?z_dict ?z_max ?z_abs ?z_range ?z_ValueError ?z_zip ?a_is_number ?l_is_number ?c_is_number ?k_is_number ?a_as_one ?l_as_one ?c_as_one ?k_as_one ?l_Ladder___init__ ?c_Ladder___init__ ?k_Ladder___init__ ?l_Ladder_size ?c_Ladder_size ?k_Ladder_size ?l_Ladder_loose ?c_Ladder_loose ?k_Ladder_loose ?l_Ladder_rungs ?c_Ladder_rungs ?k_Ladder_rungs ?l_Ladder_fed ?c_Ladder_fed ?k_Ladder_fed ?l_Ladder_twin ?c_Ladder_twin ?k_Ladder_twin ?l_Ladder___eq__ ?c_Ladder___eq__ ?k_Ladder___eq__ ?l_Ladder_feed ?c_Ladder_feed ?k_Ladder_feed ?l_Ladder_pour ?c_Ladder_pour ?k_Ladder_pour ?a_ladder_of ?l_ladder_of ?c_ladder_of ?k_ladder_of ?a_is_fed ?l_is_fed ?c_is_fed ?k_is_fed ?a__law_begun ?l__law_begun ?c__law_begun ?k__law_begun ?a__law_draw ?l__law_draw ?c__law_draw ?k__law_draw ?a__law_number ?l__law_number ?c__law_number ?k__law_number ?a__law_numbers ?l__law_numbers ?c__law_numbers ?k__law_numbers ?a__law_joined ?l__law_joined ?c__law_joined ?k__law_joined ?a__law_with ?l__law_with ?c__law_with ?k__law_with ?a__law_poured ?l__law_poured ?c__law_poured ?k__law_poured ?a__law_alike ?l__law_alike ?c__law_alike ?k__law_alike ?a__law_plain ?l__law_plain ?c__law_plain ?k__law_plain ?a__law_refused ?l__law_refused ?c__law_refused ?k__law_refused ?a__law_drawn ?l__law_drawn ?c__law_drawn ?k__law_drawn ?a__law_apart ?l__law_apart ?c__law_apart ?k__law_apart ?a_law ?l_law ?c_law ?k_law ?ac_Ladder ?pg_Ladder ?hd_Ladder ?po_Ladder ?sa_Ladder ?mk_Ladder ?kc_Ladder ?ia_Ladder ?ib_Ladder ?ic_Ladder ?id_Ladder ?ie_Ladder ?n_wide_Ladder ?n_free_Ladder ?n_steps_Ladder ?t_Ladder___init__ ?i_Ladder___init__ ?t_Ladder_size ?i_Ladder_size ?t_Ladder_loose ?i_Ladder_loose ?t_Ladder_rungs ?i_Ladder_rungs ?t_Ladder_fed ?i_Ladder_fed ?t_Ladder_twin ?i_Ladder_twin ?t_Ladder___eq__ ?i_Ladder___eq__ ?t_Ladder_feed ?i_Ladder_feed ?t_Ladder_pour ?i_Ladder_pour ?nk_Ladder_0 ?nk_Ladder_1 ?nk_Ladder_2 ?nk_Ladder_3 ?ac_LeftError ?ac_NoKeeper ?ac_NoNumber ?ac_NoSize ?xk_NoKeeper ?xq_NoKeeper ?xs_NoKeeper ?xt_NoKeeper ?xi_NoKeeper ?xu_NoKeeper ?xg_NoKeeper ?xh_NoKeeper ?xd_NoKeeper ?xa_NoKeeper ?xn_NoKeeper ?xw_NoKeeper ?xm_NoKeeper ?xv_NoKeeper ?xk_NoNumber ?xq_NoNumber ?xs_NoNumber ?xt_NoNumber ?xi_NoNumber ?xu_NoNumber ?xg_NoNumber ?xh_NoNumber ?xd_NoNumber ?xa_NoNumber ?xn_NoNumber ?xw_NoNumber ?xm_NoNumber ?xv_NoNumber ?xk_NoSize ?xq_NoSize ?xs_NoSize ?xt_NoSize ?xi_NoSize ?xu_NoSize ?xg_NoSize ?xh_NoSize ?xd_NoSize ?xa_NoSize ?xn_NoSize ?xw_NoSize ?xm_NoSize ?xv_NoSize ?zs_LeftError ?zd_LeftError ?zt_LeftError ?zl_NoKeeper ?kk_NoKeeper_NoKeeper ?gc_GREATEST
    (case z_isinstance => k_is)
    (case z_int => k_is)
    (case z_bool => k_is)
    (case z_tuple => k_is)
    (case z_sorted => k_is)
    (case z_len => k_is)
    (case z_sum => k_is)
    (case z_list => k_is)
    (case z_dict => k_is)
    (case z_max => k_is)
    (case z_abs => k_is)
    (case z_range => k_is)
    (case z_ValueError => k_is)
    (case z_zip => k_is)
    (case ac_Ladder => k_is)
    (case ac_LeftError => k_is)
    (case ac_NoKeeper => k_is)
    (case ac_NoNumber => k_is)
    (case ac_NoSize => k_is)
    (case t_Ladder___init__ => k_is)
    (case t_Ladder_size => k_is)
    (case t_Ladder_loose => k_is)
    (case t_Ladder_rungs => k_is)
    (case t_Ladder_fed => k_is)
    (case t_Ladder_twin => k_is)
    (case t_Ladder___eq__ => k_is)
    (case t_Ladder_feed => k_is)
    (case t_Ladder_pour => k_is)
    (case a_is_number => k_is)
    (case a_as_one => k_is)
    (case a_ladder_of => k_is)
    (case a_is_fed => k_is)
    (case a__law_begun => k_is)
    (case a__law_draw => k_is)
    (case a__law_number => k_is)
    (case a__law_numbers => k_is)
    (case a__law_joined => k_is)
    (case a__law_with => k_is)
    (case a__law_poured => k_is)
    (case a__law_alike => k_is)
    (case a__law_plain => k_is)
    (case a__law_refused => k_is)
    (case a__law_drawn => k_is)
    (case a__law_apart => k_is)
    (case a_law => k_is)
    (case l_is_number => k_is)
    (case c_is_number => k_is)
    (case k_is_number => k_is)
    (case l_as_one => k_is)
    (case c_as_one => k_is)
    (case k_as_one => k_is)
    (case l_Ladder___init__ => k_is)
    (case c_Ladder___init__ => k_is)
    (case k_Ladder___init__ => k_is)
    (case l_Ladder_size => k_is)
    (case c_Ladder_size => k_is)
    (case k_Ladder_size => k_is)
    (case l_Ladder_loose => k_is)
    (case c_Ladder_loose => k_is)
    (case k_Ladder_loose => k_is)
    (case l_Ladder_rungs => k_is)
    (case c_Ladder_rungs => k_is)
    (case k_Ladder_rungs => k_is)
    (case l_Ladder_fed => k_is)
    (case c_Ladder_fed => k_is)
    (case k_Ladder_fed => k_is)
    (case l_Ladder_twin => k_is)
    (case c_Ladder_twin => k_is)
    (case k_Ladder_twin => k_is)
    (case l_Ladder___eq__ => k_is)
    (case c_Ladder___eq__ => k_is)
    (case k_Ladder___eq__ => k_is)
    (case l_Ladder_feed => k_is)
    (case c_Ladder_feed => k_is)
    (case k_Ladder_feed => k_is)
    (case l_Ladder_pour => k_is)
    (case c_Ladder_pour => k_is)
    (case k_Ladder_pour => k_is)
    (case l_ladder_of => k_is)
    (case c_ladder_of => k_is)
    (case k_ladder_of => k_is)
    (case l_is_fed => k_is)
    (case c_is_fed => k_is)
    (case k_is_fed => k_is)
    (case l__law_begun => k_is)
    (case c__law_begun => k_is)
    (case k__law_begun => k_is)
    (case l__law_draw => k_is)
    (case c__law_draw => k_is)
    (case k__law_draw => k_is)
    (case l__law_number => k_is)
    (case c__law_number => k_is)
    (case k__law_number => k_is)
    (case l__law_numbers => k_is)
    (case c__law_numbers => k_is)
    (case k__law_numbers => k_is)
    (case l__law_joined => k_is)
    (case c__law_joined => k_is)
    (case k__law_joined => k_is)
    (case l__law_with => k_is)
    (case c__law_with => k_is)
    (case k__law_with => k_is)
    (case l__law_poured => k_is)
    (case c__law_poured => k_is)
    (case k__law_poured => k_is)
    (case l__law_alike => k_is)
    (case c__law_alike => k_is)
    (case k__law_alike => k_is)
    (case l__law_plain => k_is)
    (case c__law_plain => k_is)
    (case k__law_plain => k_is)
    (case l__law_refused => k_is)
    (case c__law_refused => k_is)
    (case k__law_refused => k_is)
    (case l__law_drawn => k_is)
    (case c__law_drawn => k_is)
    (case k__law_drawn => k_is)
    (case l__law_apart => k_is)
    (case c__law_apart => k_is)
    (case k__law_apart => k_is)
    (case l_law => k_is)
    (case c_law => k_is)
    (case k_law => k_is)
    (case pg_Ladder => k_is)
    (case hd_Ladder => k_is)
    (case po_Ladder => k_is)
    (case sa_Ladder => k_is)
    (case mk_Ladder => k_is)
    (case kc_Ladder => k_is)
    (case ia_Ladder => k_is)
    (case ib_Ladder => k_is)
    (case ic_Ladder => k_is)
    (case id_Ladder => k_is)
    (case ie_Ladder => exact if_pos (beq_self_eq_true _))
    (case n_wide_Ladder => k_is)
    (case n_free_Ladder => k_is)
    (case n_steps_Ladder => k_is)
    (case i_Ladder___init__ => k_is)
    (case i_Ladder_size => k_is)
    (case i_Ladder_loose => k_is)
    (case i_Ladder_rungs => k_is)
    (case i_Ladder_fed => k_is)
    (case i_Ladder_twin => k_is)
    (case i_Ladder___eq__ => k_is)
    (case i_Ladder_feed => k_is)
    (case i_Ladder_pour => k_is)
    (case nk_Ladder_0 => kit_is)
    (case nk_Ladder_1 => kit_is)
    (case nk_Ladder_2 => kit_is)
    (case nk_Ladder_3 => kit_is)
    (case xk_NoKeeper => k_is)
    (case xq_NoKeeper => k_exc)
    (case xs_NoKeeper => k_is)
    (case xt_NoKeeper => k_is)
    (case xi_NoKeeper => k_is)
    (case xu_NoKeeper => first | rfl | k_is)
    (case xg_NoKeeper => k_is)
    (case xh_NoKeeper => k_is)
    (case xd_NoKeeper => k_is)
    (case xa_NoKeeper => k_is)
    (case xn_NoKeeper => k_is)
    (case xw_NoKeeper => k_is)
    (case xm_NoKeeper => k_is)
    (case xv_NoKeeper => k_is)
    (case xk_NoNumber => k_is)
    (case xq_NoNumber => k_exc)
    (case xs_NoNumber => k_is)
    (case xt_NoNumber => k_is)
    (case xi_NoNumber => k_is)
    (case xu_NoNumber => first | rfl | k_is)
    (case xg_NoNumber => k_is)
    (case xh_NoNumber => k_is)
    (case xd_NoNumber => k_is)
    (case xa_NoNumber => k_is)
    (case xn_NoNumber => k_is)
    (case xw_NoNumber => k_is)
    (case xm_NoNumber => k_is)
    (case xv_NoNumber => k_is)
    (case xk_NoSize => k_is)
    (case xq_NoSize => k_exc)
    (case xs_NoSize => k_is)
    (case xt_NoSize => k_is)
    (case xi_NoSize => k_is)
    (case xu_NoSize => first | rfl | k_is)
    (case xg_NoSize => k_is)
    (case xh_NoSize => k_is)
    (case xd_NoSize => k_is)
    (case xa_NoSize => k_is)
    (case xn_NoSize => k_is)
    (case xw_NoSize => k_is)
    (case xm_NoSize => k_is)
    (case xv_NoSize => k_is)
    (case zs_LeftError => k_is)
    (case zd_LeftError => k_is)
    (case zt_LeftError => k_is)
    (case zl_NoKeeper => k_is)
    (case kk_NoKeeper_NoKeeper => kit_is)
    (case gc_GREATEST => k_is)
