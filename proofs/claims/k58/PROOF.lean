import PyProof.Rows.All
import Wide.All
import OpenK.AllK
import Wide.FinOn
import HandS.ForMost
import HandS.Evl
import HandS.IsInst
import HandS.Style
import HandS.SortInts
import HandS.ListItems
import HandS.DictComp
import KE.DatumMoreOrd
import KE.DatumIndex
import KE.GoesZip
import KE.GoesMore
import KE.KTupSum
import KE.KDictSum
import HandS.Zip
import HandS.SortKw
import HandS.TupMul
import HandS.SetKeys
import HandS.Conv
import HandS.TupAny
import HandS.OwnEq
import HandS.SlotsOwn
import HandS.HeadEnd
import KE.GoesEnum
import HandS.TupLe
import HandS.NoneIn
import HandS.SetFor
import HandS.Set
import HandS.Exc
import HandS.ExcOwn
import HandS.ExcIs
import HandS.WordsExc
import HandS.WideBits
import HandS.Text
import HandS.MakeKwOnly
import PyProof.InstEq
import KE.SortData
import KE.KItemsList
import HandS.DictTup
import PyProof.ConsumeS
import PyProof.WalkInts
import PyProof.GenQ
import HandS.Ends
import PyProof.ReprReads
import PyProof.Rows.StrMeet
import HandS.Finally
import HandS.ExcInit
import HandS.ExcField
import HandS.EndTab
import HandS.NestedK
import PySem.Challenge.RW_bygone_k58_groups_kept
set_option Elab.async false
set_option linter.all false
set_option maxRecDepth 100000
set_option maxHeartbeats 4000000
/-! B: worlds (an unchanging part of the heap within the heap), data read off the unchanging part, what a reading evaluates to -/
namespace B
open PySem L2
abbrev SS := L2.St
abbrev Fg := PySem.W.Frag
open Evl (Ex)
open PySem.W (Tup T3 T4 Datum DatumOrd)

/-! ### heaps -/
/-- all is kept, but that a dict may be locked -/
def Ext (H H' : Hp) : Prop := ∀ a o, H a = some o → H' a = some o ∨ ((∃ kvs, o = HO.dK kvs) ∧ ∃ ob, H' a = some (.frz ob o))
theorem Ext.refl (H : Hp) : Ext H H := fun _ _ h => .inl h
theorem exExt {H H' : Hp} (e : Ex H H') : Ext H H' := fun a o h => .inl (e a o h)
theorem Ext.trans {H H1 H2 : Hp} (a : Ext H H1) (b : Ext H1 H2) : Ext H H2 := fun x o h => by
  rcases a x o h with h1 | ⟨⟨k, rfl⟩, ob, h1⟩
  · exact b x o h1
  · rcases b x _ h1 with h2 | ⟨⟨k', h2⟩, _⟩
    · exact .inr ⟨⟨k, rfl⟩, ob, h2⟩
    · cases h2
theorem Ext.rd {H H' : Hp} {a : Addr} {u : HO} (e : Ext H H') (h : Rd H a u) : Rd H' a u := by
  rcases h with h | ⟨o, h⟩
  · rcases e a _ h with h1 | ⟨_, ob, h1⟩
    · exact .inl h1
    · exact .inr ⟨ob, h1⟩
  · rcases e a _ h with h1 | ⟨⟨k, h1⟩, _⟩
    · exact .inr ⟨o, h1⟩
    · cases h1
theorem Ext.free {H H' : Hp} {p : Addr} (e : Ext H H') (h : H' p = none) : H p = none := by
  cases q : H p with
  | none => rfl
  | some o => rcases e p o q with h1 | ⟨_, ob, h1⟩ <;> (rw [h] at h1; cases h1)
theorem Ext.l {K : Fg} {H H' : Hp} {a : Addr} {xs : List V} (e : Ext H H') (h : SqL K H a xs) : SqL K H' a xs := by
  rcases h with h | h
  · exact .inl (e.rd h)
  · exact .inr h
theorem Ext.t {K : Fg} {H H' : Hp} {a : Addr} {xs : List V} (e : Ext H H') (h : SqT K H a xs) : SqT K H' a xs := by
  rcases h with h | h
  · exact .inl (e.rd h)
  · exact .inr h
theorem Ext.el {H H' : Hp} {a : Addr} {xs : List V} (e : Ext H H') (h : H a = some (.lst xs)) : H' a = some (.lst xs) := by
  rcases e a _ h with h1 | ⟨⟨_, q⟩, _⟩
  · exact h1
  · cases q
theorem Ext.et {H H' : Hp} {a : Addr} {xs : List V} (e : Ext H H') (h : H a = some (.tup xs)) : H' a = some (.tup xs) := by
  rcases e a _ h with h1 | ⟨⟨_, q⟩, _⟩
  · exact h1
  · cases q
theorem Ext.ins {H H' : Hp} {a C dx : Addr} {fs : List (Str × V)} (e : Ext H H') (h : H a = some (.ins C dx fs)) : H' a = some (.ins C dx fs) := by
  rcases e a _ h with h1 | ⟨⟨_, q⟩, _⟩
  · exact h1
  · cases q
theorem Ext.lock {H : Hp} {d : Addr} {kvs : List (Key × V)} {od : Obj} (h : H d = some (.dK kvs)) : Ext H (upd H d (.frz od (.dK kvs))) := fun a o e => by
  by_cases q : a = d
  · subst q
    rw [h] at e; cases e
    exact .inr ⟨⟨kvs, rfl⟩, od, upd_same⟩
  · exact .inl (by rw [upd_ne q]; exact e)

/-- a world: the heap H, within it the part B that stays as it is -/
structure Wd where
  B : Hp
  H : Hp
  sub : Ext B H
/-- a thing that is no tuple stands at a -/
def Nt (H : Hp) (a : Addr) : Prop := ∃ o, H a = some o ∧ ∀ xs, o ≠ .tup xs
theorem Nt.ne {H : Hp} {a : Addr} (h : Nt H a) : H a ≠ none := by
  obtain ⟨o, e, _⟩ := h
  rw [e]; exact fun z => by cases z
theorem Nt.l {H : Hp} {a : Addr} {xs : List V} (h : H a = some (.lst xs)) : Nt H a := ⟨_, h, fun _ z => by cases z⟩
theorem Nt.k {H : Hp} {a : Addr} {xs : List (Key × V)} (h : H a = some (.dK xs)) : Nt H a := ⟨_, h, fun _ z => by cases z⟩
/-- the world has moved on: what stays is as it was (and no more of it is locked), of the rest only S may have changed; what was free to change still is -/
structure Md (S : List Addr) (W W' : Wd) : Prop where
  b : Ex W.B W'.B
  l : ∀ a o, W.B a = some o → W.H a = some o → W'.H a = some o
  o : ∀ a o, a ∉ S → W.H a = some o → W'.H a = some o
  m : ∀ a, Nt W.H a → W'.B a = W.B a
  d : ∀ a, W.H a ≠ none → W'.H a ≠ none
  n : ∀ a, Nt W.H a → Nt W'.H a
theorem Md.refl (S : List Addr) (W : Wd) : Md S W W := ⟨Evl.Ex.refl _, fun _ _ _ h => h, fun _ _ _ h => h, fun _ _ => rfl, fun _ h => h, fun _ h => h⟩
theorem Md.trans {S : List Addr} {W W1 W2 : Wd} (a : Md S W W1) (b : Md S W1 W2) : Md S W W2 := ⟨a.b.trans b.b, fun x o h1 h2 => b.l x o (a.b x o h1) (a.l x o h1 h2), fun x o h1 h2 => b.o x o h1 (a.o x o h1 h2), fun x hx => by
  rw [b.m x (a.n x hx), a.m x hx], fun x hx => b.d x (a.d x hx), fun x hx => b.n x (a.n x hx)⟩
theorem Md.mono {S S' : List Addr} {W W' : Wd} (a : Md S W W') (h : ∀ x, x ∈ S → x ∈ S') : Md S' W W' := ⟨a.b, a.l, fun x o h1 h2 => a.o x o (fun z => h1 (h x z)) h2, a.m, a.d, a.n⟩
theorem Md.mut {S : List Addr} {W W' : Wd} (g : Md S W W') {a : Addr} {o : HO} (hS : a ∉ S) (h : W.H a = some o) (n : W.B a = none) (ho : ∀ xs, o ≠ .tup xs := by intro _ h; cases h) : W'.H a = some o ∧ W'.B a = none :=
  ⟨g.o a o hS h, by rw [g.m a ⟨o, h, ho⟩]; exact n⟩
abbrev Grow := Md []
theorem Md.h {W W' : Wd} (g : Md [] W W') : Ex W.H W'.H := fun a o e => g.o a o (by simp) e
theorem Grow.s {S : List Addr} {W W' : Wd} (g : Grow W W') : Md S W W' := g.mono fun _ h => by simp at h
theorem Grow.mk {W W' : Wd} (b : Ex W.B W'.B) (h : Ex W.H W'.H) (m : ∀ a, Nt W.H a → W'.B a = W.B a) : Grow W W' := ⟨b, fun a o _ h2 => h a o h2, fun a o _ h2 => h a o h2, m, fun a h2 z => (by
  cases q : W.H a with
  | none => exact h2 q
  | some o => rw [h a o q] at z; cases z), fun a ⟨o, e, ho⟩ => ⟨o, h a o e, ho⟩⟩
theorem Wd.free (W : Wd) {p : Addr} (h : W.H p = none) : W.B p = none := W.sub.free h
/-- a new thing that stays -/
def Wd.add (W : Wd) (p : Addr) (o : HO) : Wd := ⟨upd W.B p o, upd W.H p o, fun a u e => by
  by_cases q : a = p
  · subst q; rw [upd_same] at e; cases e; exact .inl upd_same
  · rw [upd_ne q] at e; rw [upd_ne q]; exact W.sub a u e⟩
theorem Wd.grow_add (W : Wd) {p : Addr} {o : HO} (h : W.H p = none) : Grow W (W.add p o) :=
  .mk (Evl.Ex.new (W.free h)) (Evl.Ex.new h) fun a ha => by
    have : a ≠ p := fun e => ha.ne (by rw [e]; exact h)
    show upd W.B p o a = W.B a
    rw [upd_ne this]
/-- a thing that may change, new or changed -/
def Wd.put (W : Wd) (p : Addr) (o : HO) (h : W.B p = none) : Wd := ⟨W.B, upd W.H p o, fun a u e => by
  have q : a ≠ p := fun q => by rw [q, h] at e; cases e
  rw [upd_ne q]; exact W.sub a u e⟩
theorem Wd.grow_put (W : Wd) {p : Addr} {o : HO} (h : W.H p = none) : Grow W (W.put p o (W.free h)) :=
  .mk (Evl.Ex.refl _) (Evl.Ex.new h) fun _ _ => rfl
theorem md_put {W : Wd} {p : Addr} {o : HO} (h : W.B p = none) (ho : ∀ xs, o ≠ .tup xs := by intro _ h; cases h) : Md [p] W (W.put p o h) := ⟨Evl.Ex.refl _, fun a u h1 h2 => by
    have : a ≠ p := fun e => by rw [e, h] at h1; cases h1
    show upd W.H p o a = some u
    rw [upd_ne this]; exact h2, fun a u h1 h2 => by
    have : a ≠ p := fun e => h1 (by rw [e]; simp)
    show upd W.H p o a = some u
    rw [upd_ne this]; exact h2, fun _ _ => rfl, fun a ha => by
    show upd W.H p o a ≠ none
    by_cases q : a = p
    · rw [q, upd_same]; exact fun z => by cases z
    · rw [upd_ne q]; exact ha, fun a ha => by
    show Nt (upd W.H p o) a
    by_cases q : a = p
    · rw [q]; exact ⟨o, upd_same, ho⟩
    · obtain ⟨u, e, hu⟩ := ha
      exact ⟨u, (upd_ne q).trans e, hu⟩⟩
/-- tuples never change: those at bs may be taken into what stays -/
def Wd.tup (W : Wd) (bs : List Addr) : Wd := ⟨fun b => match W.B b with
    | some o => some o
    | none => match W.H b with
      | some (.tup xs) => if b ∈ bs then some (.tup xs) else none
      | _ => none, W.H, fun b o e => by
  cases q : W.B b with
  | some u =>
    simp only [q] at e
    cases e
    exact W.sub b _ q
  | none =>
    simp only [q] at e
    cases q2 : W.H b with
    | none => simp only [q2] at e; cases e
    | some u =>
      cases u <;> simp only [q2] at e <;> try (cases e; done)
      split at e
      · cases e; exact .inl rfl
      · cases e⟩
theorem Wd.grow_tup (W : Wd) (bs : List Addr) : Grow W (W.tup bs) := .mk (fun b o e => by
    show (match W.B b with | some o => some o | none => _) = some o
    rw [e]) (fun _ _ h => h) fun b ⟨o, e, ho⟩ => by
  show (match W.B b with | some o => some o | none => _) = W.B b
  cases q : W.B b with
  | some u => rfl
  | none =>
    rw [e]
    cases o <;> first | rfl | exact absurd rfl (ho _)
theorem Wd.tup_at {W : Wd} {bs : List Addr} {b : Addr} {xs : List V} (h : W.H b = some (.tup xs)) (hb : b ∈ bs) : (W.tup bs).B b = some (.tup xs) := by
  show (match W.B b with | some o => some o | none => _) = _
  cases q : W.B b with
  | some u =>
    rcases W.sub b _ q with z | ⟨⟨k, rfl⟩, ob, z⟩
    · rw [h] at z; cases z; rfl
    · rw [h] at z; cases z
  | none =>
    simp only [h, if_pos hb]
/-- what an expression may do: S may change, I holds throughout -/
structure Ef where
  S : List Addr
  I : Wd → Prop
  dom : ∀ W a, I W → a ∈ S → Nt W.H a
  mv : ∀ W W', Ex W.B W'.B → (∀ a, a ∈ S → Nt W.H a → W'.H a = W.H a ∧ W'.B a = W.B a) → I W → I W'
theorem Ef.grow (ε : Ef) (W W' : Wd) (g : Grow W W') (h : ε.I W) : ε.I W' := ε.mv W W' g.b (fun a _ ha => by
  obtain ⟨o, q, _⟩ := id ha
  exact ⟨(g.h a o q).trans q.symm, g.m a ha⟩) h
theorem Ef.off {ε : Ef} {W : Wd} {D : Addr} (i : ε.I W) (h : W.H D = none) : D ∉ ε.S := fun z => (ε.dom W D i z).ne h
def pur : Ef := ⟨[], fun _ => True, fun _ _ _ h => by simp at h, fun _ _ _ _ _ => trivial⟩
structure Stp (ε : Ef) (W W' : Wd) : Prop where
  md : Md ε.S W W'
  i : ε.I W'
theorem Stp.rf {ε : Ef} {W W' : Wd} (a : Stp ε W W') : Stp ε W' W' := ⟨.refl _ _, a.i⟩
theorem Stp.start {ε : Ef} {W : Wd} (a : ε.I W) : Stp ε W W := ⟨.refl _ _, a⟩
theorem Stp.trans {ε : Ef} {W W1 W2 : Wd} (a : Stp ε W W1) (b : Stp ε W1 W2) : Stp ε W W2 := ⟨a.md.trans b.md, b.i⟩
theorem Stp.and {ε : Ef} {W W1 W2 : Wd} (a : Stp ε W W1) (b : Grow W1 W2) : Stp ε W W2 := ⟨a.md.trans (Grow.s b), ε.grow _ _ b a.i⟩
theorem Stp.pure {W W' : Wd} (a : Stp pur W W') : Grow W W' := a.md
theorem Stp.of {W W' : Wd} (a : Grow W W') : Stp pur W W' := ⟨a, trivial⟩

/-! ### data -/
class Py (α : Type) where
  rep : Fg → Hp → V → α → Prop
  mono : ∀ {K : Fg} {H H' : Hp} {v : V} {x : α}, Ext H H' → rep K H v x → rep K H' v x
abbrev rep {α : Type} [Py α] (K : Fg) (H : Hp) (v : V) (x : α) : Prop := Py.rep K H v x
theorem rex {α : Type} [Py α] {K : Fg} {H H' : Hp} {v : V} {x : α} (e : Ex H H') (h : rep K H v x) : rep K H' v x := Py.mono (exExt e) h
instance : Py Int := ⟨fun _ _ v i => v = .int i, fun _ h => h⟩
instance : Py Bool := ⟨fun _ _ v b => v = .bl b, fun _ h => h⟩
instance : Py Str := ⟨fun _ _ v s => v = .str s, fun _ h => h⟩
instance : Py Unit := ⟨fun _ _ v _ => v = .non, fun _ h => h⟩
/-- any value by itself -/
structure Raw where
  v : V
instance : Py Raw := ⟨fun _ _ v x => v = x.v, fun _ h => h⟩
abbrev Reps {α : Type} [Py α] (K : Fg) (H : Hp) (vs : List V) (xs : List α) : Prop := Paired (rep K H) vs xs
theorem Reps.mono {α : Type} [Py α] {K : Fg} {H H' : Hp} (e : Ext H H') : ∀ {vs : List V} {xs : List α}, Reps K H vs xs → Reps K H' vs xs
  | _, _, .nil => .nil
  | _, _, .cons a b => .cons (Py.mono e a) (Reps.mono e b)
theorem Reps.len {α : Type} [Py α] {K : Fg} {H : Hp} {vs : List V} {xs : List α} (h : Reps K H vs xs) : vs.length = xs.length := Paired.length h
theorem Reps.get {α : Type} [Py α] {K : Fg} {H : Hp} : ∀ {vs : List V} {xs : List α}, Reps K H vs xs → ∀ {i : Nat} {v : V}, vs[i]? = some v → ∃ x, xs[i]? = some x ∧ rep K H v x
  | _, _, .nil, i, v, e => by simp at e
  | _, _, .cons a b, 0, v, e => by simp at e; subst e; exact ⟨_, rfl, a⟩
  | _, _, .cons a b, i + 1, v, e => by
    obtain ⟨x, h1, h2⟩ := Reps.get b (i := i) (v := v) (by simpa using e)
    exact ⟨x, by simpa using h1, h2⟩
theorem Reps.get' {α : Type} [Py α] {K : Fg} {H : Hp} : ∀ {vs : List V} {xs : List α}, Reps K H vs xs → ∀ {i : Nat} {x : α}, xs[i]? = some x → ∃ v, vs[i]? = some v ∧ rep K H v x
  | _, _, .nil, i, v, e => by simp at e
  | _, _, .cons a b, 0, v, e => by simp at e; subst e; exact ⟨_, rfl, a⟩
  | _, _, .cons a b, i + 1, v, e => by
    obtain ⟨x, h1, h2⟩ := Reps.get' b (i := i) (x := v) (by simpa using e)
    exact ⟨x, by simpa using h1, h2⟩
theorem Reps.snoc {α : Type} [Py α] {K : Fg} {H : Hp} {vs : List V} {xs : List α} {v : V} {x : α} (h : Reps K H vs xs) (r : rep K H v x) : Reps K H (vs ++ [v]) (xs ++ [x]) := Paired.snoc h r
theorem Reps.app {α : Type} [Py α] {K : Fg} {H : Hp} : ∀ {vs ws : List V} {xs ys : List α}, Reps K H vs xs → Reps K H ws ys → Reps K H (vs ++ ws) (xs ++ ys)
  | _, _, _, _, .nil, h => h
  | _, _, _, _, .cons a b, h => .cons a (Reps.app b h)
theorem Reps.rev {α : Type} [Py α] {K : Fg} {H : Hp} : ∀ {vs : List V} {xs : List α}, Reps K H vs xs → Reps K H vs.reverse xs.reverse
  | _, _, .nil => .nil
  | _, _, .cons a b => by simp only [List.reverse_cons]; exact Reps.snoc (Reps.rev b) a
theorem Reps.take {α : Type} [Py α] {K : Fg} {H : Hp} : ∀ (n : Nat) {vs : List V} {xs : List α}, Reps K H vs xs → Reps K H (vs.take n) (xs.take n)
  | 0, _, _, _ => .nil
  | n + 1, _, _, .nil => .nil
  | n + 1, _, _, .cons a b => .cons a (Reps.take n b)
theorem Reps.drop {α : Type} [Py α] {K : Fg} {H : Hp} : ∀ (n : Nat) {vs : List V} {xs : List α}, Reps K H vs xs → Reps K H (vs.drop n) (xs.drop n)
  | 0, _, _, h => h
  | n + 1, _, _, .nil => .nil
  | n + 1, _, _, .cons a b => Reps.drop n b
theorem Reps.set {α : Type} [Py α] {K : Fg} {H : Hp} {v : V} {x : α} (r : rep K H v x) : ∀ {vs : List V} {xs : List α} (i : Nat), Reps K H vs xs → Reps K H (vs.set i v) (xs.set i x)
  | _, _, _, .nil => .nil
  | _, _, 0, .cons a b => .cons r b
  | _, _, i + 1, .cons a b => .cons a (Reps.set r i b)
theorem reps_int {K : Fg} {H : Hp} : ∀ {vs : List V} {ns : List Int}, Reps K H vs ns → vs = ns.map V.int
  | _, _, .nil => rfl
  | _, _, .cons a b => by rw [show _ = _ from a, reps_int b]; rfl
theorem int_reps {K : Fg} {H : Hp} : ∀ (ns : List Int), Reps K H (ns.map V.int) ns
  | [] => .nil
  | _ :: r => .cons rfl (int_reps r)
theorem reps_str {K : Fg} {H : Hp} : ∀ {vs : List V} {ns : List Str}, Reps K H vs ns → vs = ns.map V.str
  | _, _, .nil => rfl
  | _, _, .cons a b => by rw [show _ = _ from a, reps_str b]; rfl
theorem str_reps {K : Fg} {H : Hp} : ∀ (ns : List Str), Reps K H (ns.map V.str) ns
  | [] => .nil
  | _ :: r => .cons rfl (str_reps r)
theorem reps_bl {K : Fg} {H : Hp} : ∀ {vs : List V} {ns : List Bool}, Reps K H vs ns → vs = ns.map V.bl
  | _, _, .nil => rfl
  | _, _, .cons a b => by rw [show _ = _ from a, reps_bl b]; rfl
theorem bl_reps {K : Fg} {H : Hp} : ∀ (ns : List Bool), Reps K H (ns.map V.bl) ns
  | [] => .nil
  | _ :: r => .cons rfl (bl_reps r)
instance {α : Type} [Py α] : Py (List α) := ⟨fun K H v xs => ∃ a vs, v = .ref a ∧ H a = some (.lst vs) ∧ Reps K H vs xs,
  fun e ⟨a, vs, h1, h2, h3⟩ => ⟨a, vs, h1, e.el h2, Reps.mono e h3⟩⟩
instance {α : Type} [Py α] : Py (Tup α) := ⟨fun K H v xs => ∃ a vs, v = .ref a ∧ H a = some (.tup vs) ∧ Reps K H vs xs.items,
  fun e ⟨a, vs, h1, h2, h3⟩ => ⟨a, vs, h1, e.et h2, Reps.mono e h3⟩⟩
instance {α β : Type} [Py α] [Py β] : Py (α × β) := ⟨fun K H v p => ∃ a x y, v = .ref a ∧ H a = some (.tup [x, y]) ∧ rep K H x p.1 ∧ rep K H y p.2,
  fun e ⟨a, x, y, h1, h2, h3, h4⟩ => ⟨a, x, y, h1, e.et h2, Py.mono e h3, Py.mono e h4⟩⟩
instance {α β γ : Type} [Py α] [Py β] [Py γ] : Py (T3 α β γ) := ⟨fun K H v p => ∃ a x y z, v = .ref a ∧ H a = some (.tup [x, y, z]) ∧ rep K H x p.a ∧ rep K H y p.b ∧ rep K H z p.c,
  fun e ⟨a, x, y, z, h1, h2, h3, h4, h5⟩ => ⟨a, x, y, z, h1, e.et h2, Py.mono e h3, Py.mono e h4, Py.mono e h5⟩⟩
instance {α β γ δ : Type} [Py α] [Py β] [Py γ] [Py δ] : Py (T4 α β γ δ) := ⟨fun K H v p => ∃ a x y z w, v = .ref a ∧ H a = some (.tup [x, y, z, w]) ∧ rep K H x p.a ∧ rep K H y p.b ∧ rep K H z p.c ∧ rep K H w p.d,
  fun e ⟨a, x, y, z, w, h1, h2, h3, h4, h5, h6⟩ => ⟨a, x, y, z, w, h1, e.et h2, Py.mono e h3, Py.mono e h4, Py.mono e h5, Py.mono e h6⟩⟩
instance {α : Type} [Py α] : Py (Option α) := ⟨fun K H v o => match o with | none => v = .non | some x => rep K H v x,
  fun {_ _ _ _ o} e h => match o, h with | none, h => h | some _, h => Py.mono e h⟩
class PyKey (κ : Type) where
  key : κ → Key
  inj : ∀ {a b : κ}, key a = key b → a = b
instance : PyKey Int := ⟨.inl, fun h => Sum.inl.inj h⟩
instance : PyKey Str := ⟨.inr, fun h => Sum.inr.inj h⟩
structure Dict (κ α : Type) where
  kv : List (κ × α)
abbrev KReps {κ α : Type} [PyKey κ] [Py α] (K : Fg) (H : Hp) (ks : List (Key × V)) (xs : List (κ × α)) : Prop := Paired (fun p q => p.1 = PyKey.key q.1 ∧ rep K H p.2 q.2) ks xs
theorem KReps.mono {κ α : Type} [PyKey κ] [Py α] {K : Fg} {H H' : Hp} (e : Ext H H') : ∀ {vs : List (Key × V)} {xs : List (κ × α)}, KReps K H vs xs → KReps K H' vs xs
  | _, _, .nil => .nil
  | _, _, .cons a b => .cons ⟨a.1, Py.mono e a.2⟩ (KReps.mono e b)
theorem KReps.len {κ α : Type} [PyKey κ] [Py α] {K : Fg} {H : Hp} {vs : List (Key × V)} {xs : List (κ × α)} (h : KReps K H vs xs) : vs.length = xs.length := Paired.length h
theorem KReps.get {κ α : Type} [PyKey κ] [Py α] {K : Fg} {H : Hp} : ∀ {vs : List (Key × V)} {xs : List (κ × α)}, KReps K H vs xs → ∀ {i : Nat} {k : Key} {v : V}, vs[i]? = some (k, v) → ∃ q, xs[i]? = some q ∧ k = PyKey.key q.1 ∧ rep K H v q.2
  | _, _, .nil, i, k, v, e => by simp at e
  | _, _, .cons a b, 0, k, v, e => by simp at e; subst e; exact ⟨_, rfl, a⟩
  | _, _, .cons a b, i + 1, k, v, e => by
    obtain ⟨x, h1, h2⟩ := KReps.get b (i := i) (k := k) (v := v) (by simpa using e)
    exact ⟨x, by simpa using h1, h2⟩
instance {κ α : Type} [PyKey κ] [Py α] : Py (Dict κ α) := ⟨fun K H v d => ∃ a ks, v = .ref a ∧ Rd H a (.dK ks) ∧ KReps K H ks d.kv,
  fun e ⟨a, vs, h1, h2, h3⟩ => ⟨a, vs, h1, e.rd h2, KReps.mono e h3⟩⟩
theorem key_rep {κ : Type} [PyKey κ] [Py κ] (K : Fg) (H : Hp) (h : ∀ k : κ, rep K H (kV (PyKey.key k)) k) (k : κ) : rep K H (kV (PyKey.key k)) k := h k
class PyKV (κ : Type) extends PyKey κ, Py κ where
  krep : ∀ (K : Fg) (H : Hp) (k : κ), Py.rep K H (kV (key k)) k
  keyv : ∀ {K : Fg} {H : Hp} {v : V} {k : κ}, Py.rep K H v k → v = kV (key k)
instance : PyKV Int := { krep := fun _ _ _ => rfl, keyv := fun h => h }
instance : PyKV Str := { krep := fun _ _ _ => rfl, keyv := fun h => h }
/-! ### data that == tells apart -/
class PyD (α : Type) [DecidableEq α] [Datum α] [Py α] : Prop where
  dp : ∀ {K : Fg} {H : Hp} {v : V} {x : α}, rep K H v x → Dp K H v (Datum.toD x)
theorem reps_dp {α : Type} [DecidableEq α] [Datum α] [Py α] [PyD α] {K : Fg} {H : Hp} : ∀ {vs : List V} {xs : List α}, Reps K H vs xs → DpAll K H vs (xs.map Datum.toD)
  | _, _, .nil => .nil
  | _, _, .cons a b => .cons (PyD.dp a) (reps_dp b)
instance : PyD Int := ⟨fun {K H v x} h => by rw [show v = _ from h]; exact .int x⟩
instance : PyD Bool := ⟨fun {K H v x} h => by rw [show v = _ from h]; exact .bl x⟩
instance : PyD Str := ⟨fun {K H v x} h => by rw [show v = _ from h]; exact .str x⟩
instance : PyD Unit := ⟨fun {K H v x} h => by rw [show v = _ from h]; exact .non⟩
section
variable {α β γ δ : Type} [DecidableEq α] [Datum α] [Py α] [PyD α] [DecidableEq β] [Datum β] [Py β] [PyD β] [DecidableEq γ] [Datum γ] [Py γ] [PyD γ] [DecidableEq δ] [Datum δ] [Py δ] [PyD δ]
instance : PyD (List α) := ⟨fun ⟨a, vs, e, h, r⟩ => by rw [e]; exact .lst (SqL.of h) (reps_dp r)⟩
instance : PyD (Tup α) := ⟨fun ⟨a, vs, e, h, r⟩ => by rw [e]; exact .tup (SqT.of h) (reps_dp r)⟩
instance : PyD (α × β) := ⟨fun ⟨a, x, y, e, h, r1, r2⟩ => by rw [e]; exact .tup (SqT.of h) (.cons (PyD.dp r1) (.cons (PyD.dp r2) .nil))⟩
instance : PyD (T3 α β γ) := ⟨fun ⟨a, x, y, z, e, h, r1, r2, r3⟩ => by rw [e]; exact .tup (SqT.of h) (.cons (PyD.dp r1) (.cons (PyD.dp r2) (.cons (PyD.dp r3) .nil)))⟩
instance : PyD (T4 α β γ δ) := ⟨fun ⟨a, x, y, z, w, e, h, r1, r2, r3, r4⟩ => by rw [e]; exact .tup (SqT.of h) (.cons (PyD.dp r1) (.cons (PyD.dp r2) (.cons (PyD.dp r3) (.cons (PyD.dp r4) .nil))))⟩
end
theorem holds_of {X : Cx} {pins : List (Addr × Obj)} {σ : SS} {H : Hp} {s : Shared} {α : Type} [DecidableEq α] [Datum α] {v : V} {u : Value} {x : α} (I : Inv X pins σ H s) (h : Dp X.K H v (Datum.toD x)) (r : RelV v u) : PySem.W.Holds s.heap u x := Dp.reads I _ v u h r
/-- == of two such of one type -/
def rEqT (K : Fg) (neg : Bool) : R2 := fun x y H Q => ∃ (α : Type) (_ : DecidableEq α) (_ : Datum α) (a b : α), Dp K H x (Datum.toD a) ∧ Dp K H y (Datum.toD b) ∧ Datum.depth α ≤ 60 ∧ Q (.bl (if neg then !decide (a = b) else decide (a = b))) H
def rLtT (K : Fg) : R2 := fun x y H Q => ∃ (α : Type) (_ : DecidableEq α) (_ : DatumOrd α) (a b : α), Dp K H x (Datum.toD a) ∧ Dp K H y (Datum.toD b) ∧ Datum.depth α ≤ 60 ∧ Q (.bl (DatumOrd.lt a b)) H
def rInTL (K : Fg) (neg : Bool) : R2 := fun x y H Q => ∃ (α : Type) (_ : DecidableEq α) (_ : Datum α) (a : α) (b : List α), Dp K H x (Datum.toD a) ∧ Dp K H y (Datum.toD b) ∧ Datum.depth α ≤ 60 ∧ Q (.bl (if neg then !decide (a ∈ b) else decide (a ∈ b))) H
def rInTT (K : Fg) (neg : Bool) : R2 := fun x y H Q => ∃ (α : Type) (_ : DecidableEq α) (_ : Datum α) (a : α) (b : Tup α), Dp K H x (Datum.toD a) ∧ Dp K H y (Datum.toD b) ∧ Datum.depth α ≤ 60 ∧ Q (.bl (if neg then !decide (a ∈ b.items) else decide (a ∈ b.items))) H
section
variable {X : Cx}
theorem op_eqT (hu : X.A.units + 64 < cLine) : OpR X (compareOp .Eq) (rEqT X.K false) := by
  intro pins s σ H x y v u Q I rx ry h
  obtain ⟨α, _, _, a, b, ha, hb, hd, q⟩ := h
  exact PySem.W.eq_datum (holds_of I ha rx) (holds_of I hb ry) (by omega) ⟨.bl _, H, I, rfl, q⟩
theorem op_neT (hu : X.A.units + 64 < cLine) : OpR X (compareOp .NotEq) (rEqT X.K true) := by
  intro pins s σ H x y v u Q I rx ry h
  obtain ⟨α, _, _, a, b, ha, hb, hd, q⟩ := h
  refine PySem.W.ne_datum (holds_of I ha rx) (holds_of I hb ry) (by omega) ⟨.bl _, H, I, ?_, q⟩
  show Value.bool _ = Value.bool _
  simp
theorem op_ltTT (hu : X.A.units + 64 < cLine) : OpR X (compareOp .Lt) (rLtT X.K) := by
  intro pins s σ H x y v u Q I rx ry h
  obtain ⟨α, _, _, a, b, ha, hb, hd, q⟩ := h
  exact PySem.W.lt_datum (holds_of I ha rx) (holds_of I hb ry) (by omega) ⟨.bl _, H, I, rfl, q⟩
theorem op_inTL (hu : X.A.units + 64 < cLine) : OpR X (compareOp .In) (rInTL X.K false) := by
  intro pins s σ H x y v u Q I rx ry h
  obtain ⟨α, _, _, a, b, ha, hb, hd, q⟩ := h
  obtain ⟨l, vs, rfl, hl, H2⟩ := PySem.W.list_of_holds (holds_of I hb ry)
  exact PySem.W.in_list_datum hl H2 (holds_of I ha rx) (by omega) ⟨.bl _, H, I, rfl, q⟩
theorem op_notInTL (hu : X.A.units + 64 < cLine) : OpR X (compareOp .NotIn) (rInTL X.K true) := by
  intro pins s σ H x y v u Q I rx ry h
  obtain ⟨α, _, _, a, b, ha, hb, hd, q⟩ := h
  obtain ⟨l, vs, rfl, hl, H2⟩ := PySem.W.list_of_holds (holds_of I hb ry)
  refine PySem.W.notIn_list_datum hl H2 (holds_of I ha rx) (by omega) ⟨.bl _, H, I, ?_, q⟩
  show Value.bool _ = Value.bool _
  simp
theorem op_inTT (hu : X.A.units + 64 < cLine) : OpR X (compareOp .In) (rInTT X.K false) := by
  intro pins s σ H x y v u Q I rx ry h
  obtain ⟨α, _, _, a, b, ha, hb, hd, q⟩ := h
  obtain ⟨l, vs, rfl, hl, H2⟩ := PySem.W.tup_of_holds (holds_of I hb ry)
  exact PySem.W.in_tuple_datum hl H2 (holds_of I ha rx) (by omega) ⟨.bl _, H, I, rfl, q⟩
theorem op_notInTT (hu : X.A.units + 64 < cLine) : OpR X (compareOp .NotIn) (rInTT X.K true) := by
  intro pins s σ H x y v u Q I rx ry h
  obtain ⟨α, _, _, a, b, ha, hb, hd, q⟩ := h
  obtain ⟨l, vs, rfl, hl, H2⟩ := PySem.W.tup_of_holds (holds_of I hb ry)
  refine PySem.W.notIn_tuple_datum hl H2 (holds_of I ha rx) (by omega) ⟨.bl _, H, I, ?_, q⟩
  show Value.bool _ = Value.bool _
  simp
end
end B
/-! B: what a reading evaluates to in a world -/
namespace B
open PySem L2
open Evl (Ex)
open PySem.W (Tup T3 T4 Datum DatumOrd)

/-- later: what stays is as it was, and no more of it is locked -/
structure On (W W' : Wd) : Prop where
  b : Ex W.B W'.B
  l : ∀ a o, W.B a = some o → W.H a = some o → W'.H a = some o
theorem On.refl (W : Wd) : On W W := ⟨Evl.Ex.refl _, fun _ _ _ h => h⟩
theorem On.trans {W W1 W2 : Wd} (x : On W W1) (y : On W1 W2) : On W W2 := ⟨x.b.trans y.b, fun a o h1 h2 => y.l a o (x.b a o h1) (x.l a o h1 h2)⟩
theorem Md.on {S : List Addr} {W W' : Wd} (g : Md S W W') : On W W' := ⟨g.b, g.l⟩
theorem Stp.on {ε : Ef} {W W' : Wd} (g : Stp ε W W') : On W W' := g.md.on

section
variable {α β γ : Type} [Py α] [Py β] [Py γ] {K : Fg} {σ : SS} {W W' : Wd} {v : V} {x : α} {ε : Ef} {S : List Addr}
theorem rep_g (g : Md S W W') (h : rep K W.B v x) : rep K W'.B v x := rex g.b h
theorem rep_s (g : Stp ε W W') (h : rep K W.B v x) : rep K W'.B v x := rex g.md.b h
theorem rep_on (g : On W W') (h : rep K W.B v x) : rep K W'.B v x := rex g.b h
theorem rep_h (h : rep K W.B v x) : rep K W.H v x := Py.mono W.sub h
end
/-- an unlocked dict that stays -/
def DictAt {κ α : Type} [PyKey κ] [Py α] (K : Fg) (W : Wd) (v : V) (d : Dict κ α) : Prop :=
  ∃ a ks, v = .ref a ∧ W.B a = some (.dK ks) ∧ W.H a = some (.dK ks) ∧ KReps K W.B ks d.kv
section
variable {κ α : Type} [PyKey κ] [Py α] {K : Fg} {W W' : Wd} {v : V} {d : Dict κ α} {ε : Ef} {S : List Addr}
theorem DictAt.rep (h : DictAt K W v d) : rep K W.B v d := by
  obtain ⟨a, ks, h1, h2, h3, h4⟩ := h
  exact ⟨a, ks, h1, .inl h2, h4⟩
theorem DictAt.on (g : On W W') (h : DictAt K W v d) : DictAt K W' v d := by
  obtain ⟨a, ks, h1, h2, h3, h4⟩ := h
  exact ⟨a, ks, h1, g.b _ _ h2, g.l _ _ h2 h3, KReps.mono (exExt g.b) h4⟩
theorem DictAt.g (g : Md S W W') (h : DictAt K W v d) : DictAt K W' v d := h.on g.on
theorem DictAt.s (g : Stp ε W W') (h : DictAt K W v d) : DictAt K W' v d := h.on g.on
end

theorem nodup_le {α : Type} [DecidableEq α] : ∀ {l m : List α}, l.Nodup → (∀ x ∈ l, x ∈ m) → l.length ≤ m.length
  | [], _, _, _ => Nat.zero_le _
  | x :: l, m, n, h => by
    rw [List.nodup_cons] at n
    have hx := h x List.mem_cons_self
    have := nodup_le (m := m.erase x) n.2 fun y hy => (List.mem_erase_of_ne (fun (e : y = x) => n.1 (e ▸ hy))).mpr (h y (List.mem_cons_of_mem _ hy))
    rw [List.length_erase_of_mem hx] at this
    have : 0 < m.length := List.length_pos_of_mem hx
    rw [List.length_cons]
    omega
/-! tables -/
section
variable {κ α : Type} [DecidableEq κ]
def klook (kv : List (κ × α)) (k : κ) : Option α := (kv.find? fun q => decide (q.1 = k)).map (·.2)
def kput (kv : List (κ × α)) (k : κ) (v : α) : List (κ × α) := if (kv.any fun q => decide (q.1 = k)) = true then kv.map (fun q => if q.1 = k then (q.1, v) else q) else kv ++ [(k, v)]
def kdrop (kv : List (κ × α)) (k : κ) : List (κ × α) := kv.filter fun q => decide (q.1 ≠ k)
theorem klook_nil {k : κ} : klook ([] : List (κ × α)) k = none := rfl
theorem klook_cons {q : κ × α} {kv : List (κ × α)} {k : κ} : klook (q :: kv) k = if q.1 = k then some q.2 else klook kv k := by
  unfold klook
  rw [List.find?_cons]
  by_cases h : q.1 = k
  · simp [h]
  · simp [h]
theorem klook_none {k : κ} : ∀ {kv : List (κ × α)}, klook kv k = none ↔ k ∉ kv.map (·.1)
  | [] => by simp [klook_nil]
  | q :: kv => by
    rw [klook_cons]
    by_cases h : q.1 = k
    · simp [h]
    · rw [if_neg h, klook_none, List.map_cons, List.mem_cons, not_or]
      exact ⟨fun z => ⟨fun e => h e.symm, z⟩, fun z => z.2⟩
theorem klook_mem {k : κ} {v : α} : ∀ {kv : List (κ × α)}, klook kv k = some v → (k, v) ∈ kv
  | [], h => by simp [klook_nil] at h
  | q :: kv, h => by
    rw [klook_cons] at h
    by_cases e : q.1 = k
    · rw [if_pos e] at h
      have : q = (k, v) := Prod.ext e (Option.some.inj h)
      rw [this]; exact List.mem_cons_self
    · rw [if_neg e] at h; exact List.mem_cons_of_mem _ (klook_mem h)
theorem klook_of_mem {k : κ} {v : α} : ∀ {kv : List (κ × α)}, (kv.map (·.1)).Nodup → (k, v) ∈ kv → klook kv k = some v
  | [], _, h => by simp at h
  | q :: kv, n, h => by
    rw [List.map_cons, List.nodup_cons] at n
    rw [klook_cons]
    rcases List.mem_cons.mp h with e | h
    · rw [← e]; simp
    · have : q.1 ≠ k := fun z => n.1 (List.mem_map.mpr ⟨(k, v), h, z.symm⟩)
      rw [if_neg this]; exact klook_of_mem n.2 h
theorem kput_mem {kv : List (κ × α)} {k : κ} {v : α} {q : κ × α} (h : q ∈ kput kv k v) : q ∈ kv ∨ q = (k, v) := by
  unfold kput at h
  split at h
  · obtain ⟨q', h1, h2⟩ := List.mem_map.mp h
    by_cases e : q'.1 = k
    · rw [if_pos e] at h2; exact .inr (by rw [← h2, e])
    · rw [if_neg e] at h2; exact .inl (h2 ▸ h1)
  · rcases List.mem_append.mp h with h | h
    · exact .inl h
    · exact .inr (by simpa using h)
theorem kput_keys_nodup {kv : List (κ × α)} {k : κ} {v : α} (n : (kv.map (·.1)).Nodup) : ((kput kv k v).map (·.1)).Nodup := by
  unfold kput
  split
  · have : (kv.map (fun q => if q.1 = k then (q.1, v) else q)).map (·.1) = kv.map (·.1) := by
      rw [List.map_map]
      refine List.map_congr_left fun q _ => ?_
      show (if q.1 = k then (q.1, v) else q).1 = q.1
      split <;> rfl
    rw [this]; exact n
  · rename_i h
    rw [List.map_append, List.map_cons, List.map_nil, List.nodup_append]
    refine ⟨n, by simp, fun a ha b hb => ?_⟩
    have e : b = k := by simpa using hb
    subst e
    intro z
    subst z
    obtain ⟨q, h1, h2⟩ := List.mem_map.mp ha
    exact h (List.any_eq_true.mpr ⟨q, h1, by simp [h2]⟩)
theorem kput_len (kv : List (κ × α)) (k : κ) (v : α) : (kput kv k v).length ≤ kv.length + 1 := by
  unfold kput
  split <;> simp
theorem klook_put (kv : List (κ × α)) (k j : κ) (v : α) : klook (kput kv k v) j = if j = k then some v else klook kv j := by
  unfold kput
  by_cases h : (kv.any fun q => decide (q.1 = k)) = true
  · rw [if_pos h]
    have main : ∀ kv : List (κ × α), klook (kv.map (fun q => if q.1 = k then (q.1, v) else q)) j = if j = k then (if k ∈ kv.map (·.1) then some v else none) else klook kv j := by
      intro kv
      induction kv with
      | nil => simp [klook_nil]
      | cons q kv ih =>
        rw [List.map_cons, klook_cons, ih, klook_cons, List.map_cons]
        by_cases e : q.1 = k
        · rw [if_pos e]
          by_cases e2 : j = k
          · subst e2; simp [e]
          · have : ¬ q.1 = j := fun z => e2 (z.symm.trans e)
            simp [e2, this]
        · rw [if_neg e]
          by_cases e2 : j = k
          · subst e2
            have : ¬ j = q.1 := fun z => e z.symm
            rw [if_neg e, if_pos rfl, if_pos rfl]
            by_cases hm : j ∈ kv.map (·.1)
            · rw [if_pos hm, if_pos (List.mem_cons_of_mem _ hm)]
            · rw [if_neg hm, if_neg (fun z => (List.mem_cons.mp z).elim this hm)]
          · simp [e2]
    rw [main]
    obtain ⟨q, h1, h2⟩ := List.any_eq_true.mp h
    have : k ∈ kv.map (·.1) := List.mem_map.mpr ⟨q, h1, of_decide_eq_true h2⟩
    rw [if_pos this]
  · rw [if_neg h]
    have hk : k ∉ kv.map (·.1) := fun z => by
      obtain ⟨q, h1, h2⟩ := List.mem_map.mp z
      exact h (List.any_eq_true.mpr ⟨q, h1, by simp [h2]⟩)
    clear h
    induction kv with
    | nil =>
      rw [List.nil_append, klook_cons, klook_nil]
      by_cases e : j = k
      · simp [e]
      · have : ¬ k = j := fun z => e z.symm
        simp [e, this]
    | cons q kv ih =>
      rw [List.map_cons, List.mem_cons, not_or] at hk
      rw [List.cons_append, klook_cons, ih hk.2, klook_cons]
      by_cases e : q.1 = j
      · have : ¬ j = k := fun z => hk.1 (z.symm.trans e.symm)
        simp [e, this]
      · simp [e]
end
section
variable {κ α : Type} [DecidableEq κ] [PyKey κ] [Py α] {K : Fg} {H : Hp} {ks : List (Key × V)} {kv : List (κ × α)}
theorem key_eq {a b : κ} : (PyKey.key a : Key) = PyKey.key b ↔ a = b := ⟨fun h => PyKey.inj h, fun h => by rw [h]⟩
theorem KReps.any (r : KReps K H ks kv) (k : κ) : (ks.any fun q => decide (q.1 = PyKey.key k)) = kv.any fun q => decide (q.1 = k) := by
  induction r with
  | nil => rfl
  | cons a b ih =>
    rw [List.any_cons, List.any_cons, ih, a.1]
    congr 1
    exact decide_eq_decide.mpr key_eq
theorem KReps.put {v : V} {x : α} (r : KReps K H ks kv) (k : κ) (rv : rep K H v x) : KReps K H (putK ks (PyKey.key k) v) (kput kv k x) := by
  unfold putK kput
  rw [r.any k]
  split
  · rename_i hx
    clear hx
    induction r with
    | nil => exact .nil
    | @cons a b l1 l2 h t ih =>
      rw [List.map_cons, List.map_cons]
      refine .cons ?_ ih
      by_cases e : b.1 = k
      · have : a.1 = PyKey.key k := by rw [h.1, e]
        rw [if_pos e, if_pos this]
        exact ⟨h.1, rv⟩
      · have : ¬ a.1 = PyKey.key k := fun z => e (PyKey.inj (h.1.symm.trans z))
        rw [if_neg e, if_neg this]
        exact h
  · exact Paired.snoc r ⟨rfl, rv⟩
theorem KReps.none (r : KReps K H ks kv) {k : κ} (h : klook kv k = none) : valV ks (PyKey.key k) = none := by
  induction r with
  | nil => rfl
  | @cons a b l1 l2 hh t ih =>
    rw [klook_cons] at h
    by_cases e : b.1 = k
    · rw [if_pos e] at h; cases h
    · rw [if_neg e] at h
      rw [valV_neg (fun z => e (PyKey.inj (hh.1.symm.trans z)))]
      exact ih h
theorem KReps.some (r : KReps K H ks kv) {k : κ} {x : α} (h : klook kv k = some x) : ∃ v, valV ks (PyKey.key k) = some v ∧ rep K H v x := by
  induction r with
  | nil => simp [klook_nil] at h
  | @cons a b l1 l2 hh t ih =>
    rw [klook_cons] at h
    by_cases e : b.1 = k
    · rw [if_pos e] at h
      cases h
      exact ⟨a.2, valV_pos (by rw [hh.1, e]), hh.2⟩
    · rw [if_neg e] at h
      obtain ⟨v, h1, h2⟩ := ih h
      exact ⟨v, by rw [valV_neg (fun z => e (PyKey.inj (hh.1.symm.trans z)))]; exact h1, h2⟩
theorem KReps.drop (r : KReps K H ks kv) (k : κ) : KReps K H (dropK ks (PyKey.key k)) (kdrop kv k) := by
  unfold dropK kdrop
  induction r with
  | nil => exact .nil
  | @cons a b l1 l2 hh t ih =>
    rw [List.filter_cons, List.filter_cons]
    by_cases e : b.1 = k
    · have : a.1 = PyKey.key k := by rw [hh.1, e]
      simp only [e, this, ne_eq, not_true_eq_false, decide_false, Bool.false_eq_true, if_false]
      exact ih
    · have : ¬ a.1 = PyKey.key k := fun z => e (PyKey.inj (hh.1.symm.trans z))
      simp only [e, this, ne_eq, not_false_eq_true, decide_true, if_true]
      exact .cons hh ih
end
/-- what stands at p shall stay -/
def Wd.fix (W : Wd) (p : Addr) (o : HO) (h : W.H p = some o) : Wd := ⟨upd W.B p o, W.H, fun a u e => by
  by_cases q : a = p
  · subst q; rw [upd_same] at e; cases e; exact .inl h
  · rw [upd_ne q] at e; exact W.sub a u e⟩
theorem md_fix {S : List Addr} {W W' : Wd} (g : Md S W W') {p : Addr} {o : HO} (h : W'.H p = some o) (n : W'.B p = none) (f : W.H p = none) : Md S W (W'.fix p o h) := by
  refine ⟨fun a u e => ?_, fun a u e1 e2 => g.l a u e1 e2, g.o, fun a ha => ?_, g.d, g.n⟩
  · have q : a ≠ p := fun z => by rw [z] at e; rw [W.free f] at e; cases e
    show upd W'.B p o a = some u
    rw [upd_ne q]; exact g.b a u e
  · have q : a ≠ p := fun z => ha.ne (by rw [z]; exact f)
    show upd W'.B p o a = W.B a
    rw [upd_ne q]; exact g.m a ha
theorem ex_fix {W : Wd} {p : Addr} {o : HO} (h : W.H p = some o) (n : W.B p = none) : Ex W.B (W.fix p o h).B := fun a u e => by
  have q : a ≠ p := fun z => by rw [z, n] at e; cases e
  show upd W.B p o a = some u
  rw [upd_ne q]; exact e
theorem md_mut {S : List Addr} {W W' : Wd} (g : Md S W W') {p : Addr} {o : HO} (n : W'.B p = none) (f : W.H p = none) : Md S W (W'.put p o n) := by
  refine ⟨g.b, fun a u e1 e2 => ?_, fun a u e1 e2 => ?_, g.m, fun a ha => ?_, fun a ha => ?_⟩
  · have q : a ≠ p := fun z => by rw [z, f] at e2; cases e2
    show upd W'.H p o a = some u
    rw [upd_ne q]; exact g.l a u e1 e2
  · have q : a ≠ p := fun z => by rw [z, f] at e2; cases e2
    show upd W'.H p o a = some u
    rw [upd_ne q]; exact g.o a u e1 e2
  · show upd W'.H p o a ≠ none
    by_cases q : a = p
    · rw [q, upd_same]; exact fun z => by cases z
    · rw [upd_ne q]; exact g.d a ha
  · have q : a ≠ p := fun z => ha.ne (by rw [z]; exact f)
    obtain ⟨u, e, hu⟩ := g.n a ha
    exact ⟨u, (upd_ne q).trans e, hu⟩
/-- what I tells stays where only p, which is none of S, changes -/
theorem i_put {ε : Ef} {W : Wd} {p : Addr} {o : HO} (hS : p ∉ ε.S) (i : ε.I W) (n : W.B p = none) : ε.I (W.put p o n) :=
  ε.mv W _ (Evl.Ex.refl _) (fun a h1 _ => ⟨upd_ne fun e => hS (e ▸ h1), rfl⟩) i
theorem i_fix {ε : Ef} {W : Wd} {p : Addr} {o : HO} (hS : p ∉ ε.S) (i : ε.I W) (h : W.H p = some o) (n : W.B p = none) : ε.I (W.fix p o h) :=
  ε.mv W _ (ex_fix h n) (fun a h1 _ => ⟨rfl, upd_ne fun e => hS (e ▸ h1)⟩) i


/-! ### expressions -/
/-- a value of which P is known -/
def EvP (ε : Ef) (te : TE) (σ : SS) (W : Wd) (P : V → Wd → Prop) : Prop := ∀ W1, Stp ε W W1 → ∀ Q : VK, (∀ v W2, Stp ε W1 W2 → P v W2 → Q v W2.H) → te σ W1.H Q
def EvR {α : Type} [Py α] (ε : Ef) (K : Fg) (te : TE) (σ : SS) (W : Wd) (x : α) : Prop :=
  ∀ W1, Stp ε W W1 → ∀ Q : VK, (∀ v W2, Stp ε W1 W2 → rep K W2.B v x → Q v W2.H) → te σ W1.H Q
/-- a dict that is not locked -/
def EvD {κ α : Type} [PyKey κ] [Py α] (ε : Ef) (K : Fg) (te : TE) (σ : SS) (W : Wd) (d : Dict κ α) : Prop :=
  ∀ W1, Stp ε W W1 → ∀ Q : VK, (∀ v W2, Stp ε W1 W2 → DictAt K W2 v d → Q v W2.H) → te σ W1.H Q
def EvT (ε : Ef) (tt : TT) (σ : SS) (W : Wd) (b : Bool) : Prop :=
  ∀ W1, Stp ε W W1 → ∀ Q : Bool → Hp → Prop, (∀ W2, Stp ε W1 W2 → Q b W2.H) → tt σ W1.H Q
def EvAs {α : Type} [Py α] (ε : Ef) (K : Fg) (ta : TA) (σ : SS) (W : Wd) (xs : List α) : Prop :=
  ∀ W1, Stp ε W W1 → ∀ Q : List V → Hp → Prop, (∀ vs W2, Stp ε W1 W2 → Reps K W2.B vs xs → Q vs W2.H) → ta σ W1.H Q
def EvO (ε : Ef) (to : TO) (σ : SS) (W : Wd) (o : Option Int) : Prop := ∀ W1, Stp ε W W1 → ∀ Q : Option Int → Hp → Prop, (∀ W2, Stp ε W1 W2 → Q o W2.H) → to σ W1.H Q
/-- an operation on values, at any later world -/
def RO {α β γ : Type} [Py α] [Py β] [Py γ] (K : Fg) (r : R2) (x : α) (y : β) (z : γ) : Prop :=
  ∀ v u W1, rep K W1.B v x → rep K W1.B u y → ∀ Q : VK, (∀ w W2, Grow W1 W2 → rep K W2.B w z → Q w W2.H) → r v u W1.H Q
def RU {α β : Type} [Py α] [Py β] (K : Fg) (r : V → Hp → VK → Prop) (x : α) (y : β) : Prop :=
  ∀ v W1, rep K W1.B v x → ∀ Q : VK, (∀ w W2, Grow W1 W2 → rep K W2.B w y → Q w W2.H) → r v W1.H Q
def RC1 {α β : Type} [Py α] [Py β] (K : Fg) (r : List V → Hp → VK → Prop) (x : α) (y : β) : Prop :=
  ∀ v W1, rep K W1.B v x → ∀ Q : VK, (∀ w W2, Grow W1 W2 → rep K W2.B w y → Q w W2.H) → r [v] W1.H Q
def RC2 {α β γ : Type} [Py α] [Py β] [Py γ] (K : Fg) (r : List V → Hp → VK → Prop) (x : α) (y : β) (z : γ) : Prop :=
  ∀ v u W1, rep K W1.B v x → rep K W1.B u y → ∀ Q : VK, (∀ w W2, Grow W1 W2 → rep K W2.B w z → Q w W2.H) → r [v, u] W1.H Q
section
variable {α β γ : Type} [Py α] [Py β] [Py γ] {K : Fg} {σ : SS} {W W' : Wd} {v : V} {x : α} {y : β} {z : γ} {ta tb te : TE} {r : R2} {t u : TT} {ε : Ef}
theorem EvR.p (h : EvR ε K te σ W x) : EvP ε te σ W (fun v W => rep K W.B v x) := h
theorem EvP.toR (h : EvP ε te σ W (fun v W => rep K W.B v x)) : EvR ε K te σ W x := h
theorem EvR.s (g : Stp ε W W') (h : EvR ε K te σ W x) : EvR ε K te σ W' x := fun W1 g1 => h W1 (g.trans g1)
theorem EvT.s {b : Bool} (g : Stp ε W W') (h : EvT ε t σ W b) : EvT ε t σ W' b := fun W1 g1 => h W1 (g.trans g1)
theorem EvR.is {x' : α} (h : EvR ε K te σ W x) (e : x = x') : EvR ε K te σ W x' := e ▸ h
theorem EvT.is {b b' : Bool} (h : EvT ε t σ W b) (e : b = b') : EvT ε t σ W b' := e ▸ h
theorem EvD.rep {κ : Type} [PyKey κ] {d : Dict κ α} (h : EvD ε K te σ W d) : EvR ε K te σ W d := fun W1 g1 Q k => h W1 g1 Q fun v W2 g2 r => k v W2 g2 r.rep
/-- what leaves the heap as it is, whatever the effect around -/
theorem ev_pure (h : ∀ W1, On W W1 → EvR pur K te σ W1 x) : EvR ε K te σ W x := fun W1 g1 Q k => h W1 g1.on W1 (.start trivial) Q fun v W2 g2 r => k v W2 (g1.rf.and g2.pure) r
theorem ev_pureD {κ : Type} [PyKey κ] {d : Dict κ α} (h : ∀ W1, On W W1 → EvD pur K te σ W1 d) : EvD ε K te σ W d := fun W1 g1 Q k => h W1 g1.on W1 (.start trivial) Q fun v W2 g2 r => k v W2 (g1.rf.and g2.pure) r
theorem et_pure {b : Bool} (h : ∀ W1, On W W1 → EvT pur t σ W1 b) : EvT ε t σ W b := fun W1 g1 Q k => h W1 g1.on W1 (.start trivial) Q fun W2 g2 => k W2 (g1.rf.and g2.pure)
theorem ev_var {i : Nat} (h : σ[i]? = some (some v)) (r : rep K W.B v x) : EvR ε K (tVar i) σ W x := fun W1 g1 Q k => ⟨v, h, k v W1 g1.rf (rep_s g1 r)⟩
theorem ev_dvar {κ : Type} [PyKey κ] {d : Dict κ α} {i : Nat} (h : σ[i]? = some (some v)) (r : DictAt K W v d) : EvD ε K (tVar i) σ W d := fun W1 g1 Q k => ⟨v, h, k v W1 g1.rf (r.s g1)⟩
theorem ev_int {n : Int} : EvR ε K (tC (.int n)) σ W n := fun W1 g1 Q k => k _ W1 g1.rf rfl
theorem ev_bl {n : Bool} : EvR ε K (tC (.bl n)) σ W n := fun W1 g1 Q k => k _ W1 g1.rf rfl
theorem ev_str {n : Str} : EvR ε K (tC (.str n)) σ W n := fun W1 g1 Q k => k _ W1 g1.rf rfl
theorem ev_non : EvR ε K (tC .non) σ W () := fun W1 g1 Q k => k _ W1 g1.rf rfl
theorem ev_raw {n : V} : EvR ε K (tC n) σ W (Raw.mk n) := fun W1 g1 Q k => k _ W1 g1.rf rfl
theorem ev_rvar {i : Nat} (h : σ[i]? = some (some v)) : EvR ε K (tVar i) σ W (Raw.mk v) := fun W1 g1 Q k => ⟨v, h, k v W1 g1.rf rfl⟩
theorem ev_op (ha : EvR ε K ta σ W x) (hb : EvR ε K tb σ W y) (hr : RO K r x y z) : EvR ε K (tOp r ta tb) σ W z := fun W1 g1 Q k =>
  ha W1 g1 _ fun a W2 g2 ra => hb W2 (g1.trans g2) _ fun b W3 g3 rb => hr a b W3 (rep_s g3 ra) rb Q fun w W4 g4 rw' => k w W4 ((g2.trans g3).and g4) rw'
theorem ev_un {r : V → Hp → VK → Prop} (ha : EvR ε K ta σ W x) (hr : RU K r x y) : EvR ε K (tUn r ta) σ W y := fun W1 g1 Q k =>
  ha W1 g1 _ fun a W2 g2 ra => hr a W2 ra Q fun w W4 g4 rw' => k w W4 (g2.and g4) rw'
theorem ev_cb1 {r : List V → Hp → VK → Prop} (ha : EvR ε K ta σ W x) (hr : RC1 K r x y) : EvR ε K (tCB r (tCons ta tNil)) σ W y := fun W1 g1 Q k =>
  ha W1 g1 _ fun a W2 g2 ra => hr a W2 ra Q fun w W4 g4 rw' => k w W4 (g2.and g4) rw'
theorem ev_cb2 {r : List V → Hp → VK → Prop} (ha : EvR ε K ta σ W x) (hb : EvR ε K tb σ W y) (hr : RC2 K r x y z) : EvR ε K (tCB r (tCons ta (tCons tb tNil))) σ W z := fun W1 g1 Q k =>
  ha W1 g1 _ fun a W2 g2 ra => hb W2 (g1.trans g2) _ fun b W3 g3 rb => hr a b W3 (rep_s g3 ra) rb Q fun w W4 g4 rw' => k w W4 ((g2.trans g3).and g4) rw'
/-- a value that leaves the heap as it is -/
theorem ro_val (f : ∀ (v u : V) (W1 : Wd), rep K W1.B v x → rep K W1.B u y → ∀ Q : VK, (∀ w, rep K W1.B w z → Q w W1.H) → r v u W1.H Q) : RO K r x y z :=
  fun v u W1 rv ru Q k => f v u W1 rv ru Q fun w rw' => k w W1 (.refl _ _) rw'
theorem ro_I0 {g : Int → Int → Int} {i j : Int} : RO K (rI0 fun i j => .int (g i j)) i j (g i j) := ro_val fun _ _ _ rv ru Q k => ⟨i, j, rv, ru, k _ rfl⟩
theorem ro_B0 {g : Int → Int → Bool} {i j : Int} : RO K (rI0 fun i j => .bl (g i j)) i j (g i j) := ro_val fun _ _ _ rv ru Q k => ⟨i, j, rv, ru, k _ rfl⟩
theorem ro_I {C : Int → Int → Prop} {g : Int → Int → Int} {i j : Int} (hc : C i j) : RO K (rI C fun i j => .int (g i j)) i j (g i j) := ro_val fun _ _ _ rv ru Q k => ⟨i, j, rv, ru, hc, k _ rfl⟩
theorem ru_neg {i : Int} : RU K (rU fun i => .int (-i)) i (-i) := fun v W1 rv Q k => ⟨i, rv, k _ W1 (.refl _ _) rfl⟩
theorem ro_eqI {i j : Int} : RO K rEq i j (decide (i = j)) := ro_val fun v u _ rv ru Q k => by
  have e1 : v = .int i := rv
  have e2 : u = .int j := ru
  subst e1; subst e2
  refine ⟨rfl, k _ ?_⟩
  show V.bl _ = V.bl _
  congr 1
  simp
theorem ro_neI {i j : Int} : RO K rNe i j (!decide (i = j)) := ro_val fun v u _ rv ru Q k => by
  have e1 : v = .int i := rv
  have e2 : u = .int j := ru
  subst e1; subst e2
  refine ⟨rfl, k _ ?_⟩
  show V.bl _ = V.bl _
  congr 1
  simp
theorem ro_eqS {i j : Str} : RO K rEq i j (decide (i = j)) := ro_val fun v u _ rv ru Q k => by
  have e1 : v = .str i := rv
  have e2 : u = .str j := ru
  subst e1; subst e2
  refine ⟨rfl, k _ ?_⟩
  show V.bl _ = V.bl _
  congr 1
  simp
theorem ro_neS {i j : Str} : RO K rNe i j (!decide (i = j)) := ro_val fun v u _ rv ru Q k => by
  have e1 : v = .str i := rv
  have e2 : u = .str j := ru
  subst e1; subst e2
  refine ⟨rfl, k _ ?_⟩
  show V.bl _ = V.bl _
  congr 1
  simp
theorem ro_eqB {i j : Bool} : RO K rEq i j (decide (i = j)) := ro_val fun v u _ rv ru Q k => by
  have e1 : v = .bl i := rv
  have e2 : u = .bl j := ru
  subst e1; subst e2
  refine ⟨rfl, k _ ?_⟩
  show V.bl _ = V.bl _
  congr 1
  simp
theorem ro_neB {i j : Bool} : RO K rNe i j (!decide (i = j)) := ro_val fun v u _ rv ru Q k => by
  have e1 : v = .bl i := rv
  have e2 : u = .bl j := ru
  subst e1; subst e2
  refine ⟨rfl, k _ ?_⟩
  show V.bl _ = V.bl _
  congr 1
  simp
/-! places -/
theorem atI_ix {ζ : Type} {xs : List ζ} {i : Int} {v : ζ} (h : atI xs i = some v) : ∃ j, ixN xs.length i = some j ∧ xs[j]? = some v := by
  unfold atI at h
  cases e : ixN xs.length i with
  | none => rw [e] at h; cases h
  | some j => rw [e] at h; exact ⟨j, rfl, h⟩
theorem reps_at {vs : List V} {xs : List α} {H : Hp} {i : Int} (h : Reps K H vs xs) (e : atI xs i = some x) : ∃ v, atI vs i = some v ∧ rep K H v x := by
  obtain ⟨j, e1, e2⟩ := atI_ix e
  obtain ⟨v, h1, h2⟩ := Reps.get' h e2
  refine ⟨v, ?_, h2⟩
  unfold atI
  rw [Reps.len h, e1]
  exact h1
theorem ro_ixL {xs : List α} {i : Int} (h : atI xs i = some x) : RO K (rIxL K) xs i x := ro_val fun v u W1 rv ru Q k => by
  obtain ⟨a, vs, e1, s, r⟩ := rv
  have e2 : u = .int i := ru
  subst e1; subst e2
  obtain ⟨w, h1, h2⟩ := reps_at r h
  exact ⟨a, vs, i, w, rfl, rfl, SqL.of (W1.sub.el s), h1, k w h2⟩
theorem ro_ixT {xs : Tup α} {i : Int} (h : atI xs.items i = some x) : RO K (rIxT K) xs i x := ro_val fun v u W1 rv ru Q k => by
  obtain ⟨a, vs, e1, s, r⟩ := rv
  have e2 : u = .int i := ru
  subst e1; subst e2
  obtain ⟨w, h1, h2⟩ := reps_at r h
  exact ⟨a, vs, i, w, rfl, rfl, SqT.of (W1.sub.et s), h1, k w h2⟩
theorem ro_ixP0 {p : α × β} : RO K (rIxT K) p (0 : Int) p.1 := ro_val fun v u W1 rv ru Q k => by
  obtain ⟨a, x, y, e1, s, r1, r2⟩ := rv
  have e2 : u = .int 0 := ru
  subst e1; subst e2
  exact ⟨a, _, 0, x, rfl, rfl, SqT.of (W1.sub.et s), rfl, k x r1⟩
theorem ro_ixP1 {p : α × β} : RO K (rIxT K) p (1 : Int) p.2 := ro_val fun v u W1 rv ru Q k => by
  obtain ⟨a, x, y, e1, s, r1, r2⟩ := rv
  have e2 : u = .int 1 := ru
  subst e1; subst e2
  exact ⟨a, _, 1, y, rfl, rfl, SqT.of (W1.sub.et s), rfl, k y r2⟩
theorem ro_eqT [DecidableEq α] [Datum α] [PyD α] {x y : α} (hd : Datum.depth α ≤ 60) : RO K (rEqT K false) x y (decide (x = y)) := ro_val fun v u W1 rv ru Q k => ⟨α, _, _, x, y, PyD.dp (rep_h rv), PyD.dp (rep_h ru), hd, k _ rfl⟩
theorem ro_neT [DecidableEq α] [Datum α] [PyD α] {x y : α} (hd : Datum.depth α ≤ 60) : RO K (rEqT K true) x y (!decide (x = y)) := ro_val fun v u W1 rv ru Q k => ⟨α, _, _, x, y, PyD.dp (rep_h rv), PyD.dp (rep_h ru), hd, k _ rfl⟩
theorem ro_ltT [DecidableEq α] [DatumOrd α] [PyD α] {x y : α} (hd : Datum.depth α ≤ 60) : RO K (rLtT K) x y (DatumOrd.lt x y) := ro_val fun v u W1 rv ru Q k => ⟨α, _, _, x, y, PyD.dp (rep_h rv), PyD.dp (rep_h ru), hd, k _ rfl⟩
theorem ro_inL [DecidableEq α] [Datum α] [PyD α] {x : α} {y : List α} (hd : Datum.depth α ≤ 60) : RO K (rInTL K false) x y (decide (x ∈ y)) := ro_val fun v u W1 rv ru Q k => ⟨α, _, _, x, y, PyD.dp (rep_h rv), PyD.dp (rep_h ru), hd, k _ rfl⟩
theorem ro_ninL [DecidableEq α] [Datum α] [PyD α] {x : α} {y : List α} (hd : Datum.depth α ≤ 60) : RO K (rInTL K true) x y (!decide (x ∈ y)) := ro_val fun v u W1 rv ru Q k => ⟨α, _, _, x, y, PyD.dp (rep_h rv), PyD.dp (rep_h ru), hd, k _ rfl⟩
theorem ro_inT [DecidableEq α] [Datum α] [PyD α] {x : α} {y : Tup α} (hd : Datum.depth α ≤ 60) : RO K (rInTT K false) x y (decide (x ∈ y.items)) := ro_val fun v u W1 rv ru Q k => ⟨α, _, _, x, y, PyD.dp (rep_h rv), PyD.dp (rep_h ru), hd, k _ rfl⟩
theorem ro_ninT [DecidableEq α] [Datum α] [PyD α] {x : α} {y : Tup α} (hd : Datum.depth α ≤ 60) : RO K (rInTT K true) x y (!decide (x ∈ y.items)) := ro_val fun v u W1 rv ru Q k => ⟨α, _, _, x, y, PyD.dp (rep_h rv), PyD.dp (rep_h ru), hd, k _ rfl⟩
/-- a new list that may change -/
def EvN (ε : Ef) (K : Fg) (te : TE) (σ : SS) (W : Wd) (xs : List α) : Prop :=
  ∀ W1, Stp ε W W1 → ∀ Q : VK, (∀ p vs W2, Stp ε W1 W2 → W1.H p = none → W2.B p = none → W2.H p = some (.lst vs) → Reps K W2.B vs xs → Q (.ref p) W2.H) → te σ W1.H Q
theorem Stp.fix {W W' : Wd} (g : Stp ε W W') {p : Addr} {o : HO} (f : W.H p = none) (i : ε.I W) (h : W'.H p = some o) (n : W'.B p = none) : Stp ε W (W'.fix p o h) :=
  ⟨md_fix g.md h n f, i_fix (Ef.off i f) g.i h n⟩
theorem EvN.toR {xs : List α} (h : EvN ε K te σ W xs) : EvR ε K te σ W xs := fun W1 g1 Q k => h W1 g1 Q fun p vs W2 g2 f n e r =>
  k _ (W2.fix p _ e) (g2.fix f g1.i e n) ⟨p, vs, rfl, upd_same, Reps.mono (exExt (ex_fix e n)) r⟩
/-! displays -/
theorem ea_nil : EvAs ε K tNil σ W ([] : List α) := fun W1 g1 Q k => k [] W1 g1.rf .nil
theorem ea_cons {tr : TA} {xs : List α} (h : EvR ε K ta σ W x) (hr : EvAs ε K tr σ W xs) : EvAs ε K (tCons ta tr) σ W (x :: xs) := fun W1 g1 Q k =>
  h W1 g1 _ fun a W2 g2 ra => hr W2 (g1.trans g2) _ fun vs W3 g3 rs => k (a :: vs) W3 (g2.trans g3) (.cons (rep_s g3 ra) rs)
theorem ev_lst {ta : TA} {xs : List α} (h : EvAs ε K ta σ W xs) (hl : xs.length ≤ 100000) : EvR ε K (tLst ta) σ W xs := fun W1 g1 Q k =>
  h W1 g1 _ fun vs W2 g2 rs => ⟨Evl.sz_of (by rw [Reps.len rs]; exact hl), fun p hp => k _ (W2.add p (.lst vs)) (g2.and (W2.grow_add hp)) ⟨p, vs, rfl, upd_same, Reps.mono (exExt (W2.grow_add hp).b) rs⟩⟩
theorem en_lst {ta : TA} {xs : List α} (h : EvAs ε K ta σ W xs) (hl : xs.length ≤ 100000) : EvN ε K (tLst ta) σ W xs := fun W1 g1 Q k =>
  h W1 g1 _ fun vs W2 g2 rs => ⟨Evl.sz_of (by rw [Reps.len rs]; exact hl), fun p hp => k p vs (W2.put p (.lst vs) (W2.free hp)) (g2.and (W2.grow_put hp)) (by
    cases e : W1.H p with
    | none => rfl
    | some o => exact absurd hp (g2.md.d p (by rw [e]; exact fun z => by cases z))) (W2.free hp) upd_same rs⟩
theorem ev_tupN {ta : TA} {xs : List α} (h : EvAs ε K ta σ W xs) (hl : xs.length ≤ 100000) : EvR ε K (tTup ta) σ W (Tup.mk xs) := fun W1 g1 Q k =>
  h W1 g1 _ fun vs W2 g2 rs => ⟨Evl.sz_of (by rw [Reps.len rs]; exact hl), fun p hp => k _ (W2.add p (.tup vs)) (g2.and (W2.grow_add hp)) ⟨p, vs, rfl, upd_same, Reps.mono (exExt (W2.grow_add hp).b) rs⟩⟩
theorem ev_pair (ha : EvR ε K ta σ W x) (hb : EvR ε K tb σ W y) : EvR ε K (tTup (tCons ta (tCons tb tNil))) σ W (x, y) := fun W1 g1 Q k =>
  ha W1 g1 _ fun a W2 g2 ra => hb W2 (g1.trans g2) _ fun b W3 g3 rb => ⟨Evl.sz_of (by show 2 ≤ 100000; decide), fun p hp =>
    k _ (W3.add p (.tup [a, b])) ((g2.trans g3).and (W3.grow_add hp)) ⟨p, a, b, rfl, upd_same, rep_g (W3.grow_add hp) (rep_s g3 ra), rep_g (W3.grow_add hp) rb⟩⟩
theorem ev_t3 {tc : TE} (ha : EvR ε K ta σ W x) (hb : EvR ε K tb σ W y) (hc : EvR ε K tc σ W z) : EvR ε K (tTup (tCons ta (tCons tb (tCons tc tNil)))) σ W (T3.mk x y z) := fun W1 g1 Q k =>
  ha W1 g1 _ fun a W2 g2 ra => hb W2 (g1.trans g2) _ fun b W3 g3 rb => hc W3 ((g1.trans g2).trans g3) _ fun c W4 g4 rc => ⟨Evl.sz_of (by show 3 ≤ 100000; decide), fun p hp =>
    k _ (W4.add p (.tup [a, b, c])) (((g2.trans g3).trans g4).and (W4.grow_add hp)) ⟨p, a, b, c, rfl, upd_same, rep_g (W4.grow_add hp) (rep_s g4 (rep_s g3 ra)), rep_g (W4.grow_add hp) (rep_s g4 rb), rep_g (W4.grow_add hp) rc⟩⟩
/-! tests -/
theorem et_test {b : Bool} (h : EvR ε K te σ W b) : EvT ε (tTest te) σ W b := fun W1 g1 Q k => h W1 g1 _ fun v W2 g2 r => ⟨b, r, k W2 g2⟩
theorem et_B {b : Bool} (h : EvR ε K te σ W b) : EvT ε (tB te) σ W b := fun W1 g1 Q k => h W1 g1 _ fun v W2 g2 r => ⟨b, r, k W2 g2⟩
theorem et_and {a b : Bool} (h1 : EvT ε t σ W a) (h2 : a = true → EvT ε u σ W b) : EvT ε (tAnd t u) σ W (a && b) := fun W1 g1 Q k => h1 W1 g1 _ fun W2 g2 => by
  cases a with
  | false => exact k W2 g2
  | true => exact h2 rfl W2 (g1.trans g2) _ fun W3 g3 => k W3 (g2.trans g3)
theorem et_or {a b : Bool} (h1 : EvT ε t σ W a) (h2 : a = false → EvT ε u σ W b) : EvT ε (tOr t u) σ W (a || b) := fun W1 g1 Q k => h1 W1 g1 _ fun W2 g2 => by
  cases a with
  | true => exact k W2 g2
  | false => exact h2 rfl W2 (g1.trans g2) _ fun W3 g3 => k W3 (g2.trans g3)
theorem et_not {a : Bool} (h1 : EvT ε t σ W a) : EvT ε (tNot t) σ W (!a) := fun W1 g1 Q k => h1 W1 g1 _ fun W2 g2 => k W2 g2
theorem ev_andV {a b : Bool} (h1 : EvR ε K ta σ W a) (h2 : a = true → EvR ε K tb σ W b) : EvR ε K (tAndV ta tb) σ W (a && b) := fun W1 g1 Q k => h1 W1 g1 _ fun v W2 g2 r => ⟨a, r, by
  cases a with
  | false => exact k _ W2 g2 rfl
  | true => exact h2 rfl W2 (g1.trans g2) _ fun v W3 g3 r => k v W3 (g2.trans g3) r⟩
theorem ev_orV {a b : Bool} (h1 : EvR ε K ta σ W a) (h2 : a = false → EvR ε K tb σ W b) : EvR ε K (tOrV ta tb) σ W (a || b) := fun W1 g1 Q k => h1 W1 g1 _ fun v W2 g2 r => ⟨a, r, by
  cases a with
  | true => exact k _ W2 g2 rfl
  | false => exact h2 rfl W2 (g1.trans g2) _ fun v W3 g3 r => k v W3 (g2.trans g3) r⟩
theorem ev_notV {a : Bool} (h1 : EvR ε K ta σ W a) : EvR ε K (tNotV ta) σ W (!a) := fun W1 g1 Q k => h1 W1 g1 _ fun v W2 g2 r => ⟨a, r, k _ W2 g2 rfl⟩
theorem ev_if {b : Bool} {x' : α} (h : EvT ε t σ W b) (h1 : b = true → EvR ε K ta σ W x) (h2 : b = false → EvR ε K tb σ W x') : EvR ε K (tIf t ta tb) σ W (if b then x else x') := fun W1 g1 Q k => h W1 g1 _ fun W2 g2 => by
  cases b with
  | true => exact h1 rfl W2 (g1.trans g2) _ fun v W3 g3 r => k v W3 (g2.trans g3) r
  | false => exact h2 rfl W2 (g1.trans g2) _ fun v W3 g3 r => k v W3 (g2.trans g3) r
/-! calls of built-ins -/
def rMin2 : List V → Hp → VK → Prop := fun xs H Q => ∃ i j, xs = [.int i, .int j] ∧ Q (.int (if j < i then j else i)) H
def rMax2 : List V → Hp → VK → Prop := fun xs H Q => ∃ i j, xs = [.int i, .int j] ∧ Q (.int (if j > i then j else i)) H
def rAbs : List V → Hp → VK → Prop := fun xs H Q => ∃ i, xs = [.int i] ∧ Q (.int (if i < 0 then -i else i)) H
def rLen (K : Fg) : List V → Hp → VK → Prop := fun xs H Q => ∃ p ys, xs = [.ref p] ∧ (SqL K H p ys ∨ SqT K H p ys) ∧ Q (.int ys.length) H
def rLenS : List V → Hp → VK → Prop := fun xs H Q => ∃ z, xs = [.str z] ∧ z.length ≤ sizeLine ∧ Q (.int z.length) H
def rListO (K : Fg) : List V → Hp → VK → Prop := fun xs H Q => ∃ p ys, xs = [.ref p] ∧ (SqL K H p ys ∨ SqT K H p ys) ∧ ∀ l, H l = none → Q (.ref l) (upd H l (.lst ys))
def rDictC : List V → Hp → VK → Prop := fun xs H Q => ∃ a kvs, xs = [.ref a] ∧ Rd H a (.dK kvs) ∧ ∀ p, H p = none → Q (.ref p) (upd H p (.dK kvs))
section
variable {X : Cx}
theorem cr_min2 (hc : X.calm = true) : CallR X (.builtin "min") rMin2 := call_min2 hc
theorem cr_max2 (hc : X.calm = true) : CallR X (.builtin "max") rMax2 := call_max2 hc
theorem cr_abs : CallR X (.builtin "abs") rAbs := call_abs
theorem cr_len : CallR X (.builtin "len") (rLen X.K) := call_len_seq
theorem cr_lenS : CallR X (.builtin "len") rLenS := call_len_str
theorem cr_listO : CallR X (.type "list") (rListO X.K) := call_list_of
theorem cr_dictC : CallR X (.type "dict") rDictC := by
  intro pins s σ H xs us Q I r h
  obtain ⟨a, kvs, rfl, rd, k⟩ := h
  cases r with
  | cons r rr =>
    cases rr
    cases r
    exact d_copyOf I rd fun p s' hp I' => ⟨.ref p, _, I', rfl, k p hp⟩
end
theorem rc_min2 {i j : Int} : RC2 K rMin2 i j (if j < i then j else i) := fun v u W1 rv ru Q k => ⟨i, j, by rw [show v = _ from rv, show u = _ from ru], k _ W1 (.refl _ _) rfl⟩
theorem rc_max2 {i j : Int} : RC2 K rMax2 i j (if j > i then j else i) := fun v u W1 rv ru Q k => ⟨i, j, by rw [show v = _ from rv, show u = _ from ru], k _ W1 (.refl _ _) rfl⟩
theorem rc_abs {i : Int} : RC1 K rAbs i (if i < 0 then -i else i) := fun v W1 rv Q k => ⟨i, by rw [show v = _ from rv], k _ W1 (.refl _ _) rfl⟩
theorem rc_len {xs : List α} : RC1 K (rLen K) xs (xs.length : Int) := fun v W1 ⟨a, vs, e, s, r⟩ Q k => ⟨a, vs, by rw [e], .inl (SqL.of (W1.sub.el s)), by
  rw [Reps.len r]; exact k _ W1 (.refl _ _) rfl⟩
theorem rc_lenT {xs : Tup α} : RC1 K (rLen K) xs (xs.items.length : Int) := fun v W1 ⟨a, vs, e, s, r⟩ Q k => ⟨a, vs, by rw [e], .inr (SqT.of (W1.sub.et s)), by
  rw [Reps.len r]; exact k _ W1 (.refl _ _) rfl⟩
theorem rc_lenS {x : Str} (h : x.length ≤ 100000) : RC1 K rLenS x (x.length : Int) := fun v W1 e Q k => ⟨x, by rw [show v = _ from e], Evl.sz_of h, k _ W1 (.refl _ _) rfl⟩
theorem rc_list {xs : List α} : RC1 K (rListO K) xs xs := fun v W1 ⟨a, vs, e, s, r⟩ Q k => ⟨a, vs, by rw [e], .inl (SqL.of (W1.sub.el s)), fun l hl =>
  k _ (W1.add l (.lst vs)) (W1.grow_add hl) ⟨l, vs, rfl, upd_same, Reps.mono (exExt (W1.grow_add hl).b) r⟩⟩
theorem rc_listT {xs : Tup α} : RC1 K (rListO K) xs xs.items := fun v W1 ⟨a, vs, e, s, r⟩ Q k => ⟨a, vs, by rw [e], .inr (SqT.of (W1.sub.et s)), fun l hl =>
  k _ (W1.add l (.lst vs)) (W1.grow_add hl) ⟨l, vs, rfl, upd_same, Reps.mono (exExt (W1.grow_add hl).b) r⟩⟩
theorem rc_sum {xs : List Int} : RC1 K (rSum K) xs xs.sum := fun v W1 ⟨a, vs, e, s, r⟩ Q k => ⟨a, xs, by rw [e], by rw [← reps_int r]; exact SqL.of (W1.sub.el s), k _ W1 (.refl _ _) rfl⟩
/-- sorted: whatever stands in order with the same items -/
theorem rc_sortedI {xs ys : List Int} (hp : ys.Perm xs) (ho : ys.Pairwise (· ≤ ·)) : RC1 K (rSortedI K) xs ys := fun v W1 ⟨a, vs, e, s, r⟩ Q k => ⟨a, xs, by rw [e], by rw [← reps_int r]; exact SqL.of (W1.sub.el s), fun ns' p h1 h2 hp0 => by
  have e2 : ns' = ys := (h1.trans hp.symm).eq_of_pairwise (fun a b _ _ h h' => Int.le_antisymm h h') h2 ho
  subst e2
  exact k _ (W1.add p _) (W1.grow_add hp0) ⟨p, _, rfl, upd_same, int_reps _⟩⟩
theorem rc_all {xs : List Bool} : RC1 K (rAll K) xs (xs.all id) := fun v W1 ⟨a, vs, e, s, r⟩ Q k => ⟨a, xs, by rw [e], by rw [← reps_bl r]; exact SqL.of (W1.sub.el s), k _ W1 (.refl _ _) rfl⟩
theorem rc_any {xs : List Bool} : RC1 K (rAny K) xs (xs.any id) := fun v W1 ⟨a, vs, e, s, r⟩ Q k => ⟨a, xs, by rw [e], by rw [← reps_bl r]; exact SqL.of (W1.sub.el s), k _ W1 (.refl _ _) rfl⟩
/-- isinstance of one built-in class -/
theorem rc_isi {c a : String} {b : Bool} (ht : ∀ (W1 : Wd) v, rep K W1.B v x → TyX K W1.H v (.type a)) (hk : kitB a c = some b) : RC2 K (rIsi K) x (Raw.mk (.ty c)) b := fun v u W1 rv ru Q k =>
  ⟨v, u, .type a, .type c, b, by rw [show u = _ from ru], by rw [show u = _ from ru]; exact .ty c, ht W1 v rv, kit_ty hk, k _ W1 (.refl _ _) rfl⟩
theorem ty_int {i : Int} (W1 : Wd) (v : V) (h : rep K W1.B v i) : TyX K W1.H v (.type "int") := by rw [show v = _ from h]; exact .base (.int i)
theorem ty_str {i : Str} (W1 : Wd) (v : V) (h : rep K W1.B v i) : TyX K W1.H v (.type "str") := by rw [show v = _ from h]; exact .base (.str i)
theorem ty_bl {i : Bool} (W1 : Wd) (v : V) (h : rep K W1.B v i) : TyX K W1.H v (.type "bool") := by rw [show v = _ from h]; exact .base (.bl i)
theorem ty_non (W1 : Wd) (v : V) (h : rep K W1.B v ()) : TyX K W1.H v (.type "NoneType") := by rw [show v = _ from h]; exact .base .non
/-- {} -/
theorem ed_new {κ : Type} [PyKey κ] : EvD ε K tDNewK σ W (⟨[]⟩ : Dict κ α) := fun W1 g1 Q k p hp => k _ (W1.add p (.dK [])) (g1.rf.and (W1.grow_add hp)) ⟨p, [], rfl, upd_same, upd_same, .nil⟩
/-- dict(d) -/
theorem ed_copy {κ : Type} [PyKey κ] {d : Dict κ α} (h : EvR ε K te σ W d) : EvD ε K (tCB rDictC (tCons te tNil)) σ W d := fun W1 g1 Q k => h W1 g1 _ fun v W2 g2 ⟨a, ks, e, rd, r⟩ =>
  ⟨a, ks, by rw [e], W2.sub.rd rd, fun p hp => k _ (W2.add p (.dK ks)) (g2.and (W2.grow_add hp)) ⟨p, ks, rfl, upd_same, upd_same, KReps.mono (exExt (W2.grow_add hp).b) r⟩⟩
/-- list(d.items()) of an unlocked dict -/
theorem ev_listItems {κ : Type} [PyKV κ] {d : Dict κ α} (h : EvD ε K te σ W d) : EvR ε K (LiI.tListItems te) σ W d.kv := fun W1 g1 Q k => h W1 g1 _ fun v W2 g2 ⟨a, ks, e, hB, hH, r⟩ => by
  refine ⟨a, ks, e, hH, fun H' p ts hx hp hts hpt hl hpr => ?_⟩
  -- the new world
  let B' : Hp := fun b => match W2.B b with
    | some o => some o
    | none => if b = p then H' p else if b ∈ ts then H' b else none
  have hB' : ∀ b o, W2.B b = some o → B' b = some o := fun b o q => by show (match W2.B b with | some o => some o | none => _) = some o; rw [q]
  have hnew : ∀ b, W2.H b = none → B' b = (if b = p then H' p else if b ∈ ts then H' b else none) := fun b q => by
    show (match W2.B b with | some o => some o | none => _) = _
    rw [W2.free q]
  have sub : Ext B' H' := fun b o q => by
    cases e2 : W2.B b with
    | some o' =>
      have : B' b = some o' := hB' b o' e2
      rw [this] at q; cases q
      rcases W2.sub b o e2 with h1 | ⟨h0, ob, h1⟩
      · exact .inl (hx b o h1)
      · exact .inr ⟨h0, ob, hx b _ h1⟩
    | none =>
      have : B' b = (if b = p then H' p else if b ∈ ts then H' b else none) := by
        show (match W2.B b with | some o => some o | none => _) = _
        rw [e2]
      rw [this] at q
      by_cases z : b = p
      · rw [if_pos z] at q; rw [z]; exact .inl q
      · rw [if_neg z] at q
        by_cases z2 : b ∈ ts
        · rw [if_pos z2] at q; exact .inl q
        · rw [if_neg z2] at q; cases q
  let W3 : Wd := ⟨B', H', sub⟩
  have gr : Grow W2 W3 := .mk hB' hx fun b hb => by
    show B' b = W2.B b
    cases e2 : W2.B b with
    | some o' => exact hB' b o' e2
    | none =>
      have : B' b = (if b = p then H' p else if b ∈ ts then H' b else none) := by
        show (match W2.B b with | some o => some o | none => _) = _
        rw [e2]
      rw [this, if_neg (fun z => hb.ne (by rw [z]; exact hp)), if_neg (fun z => hb.ne (hts b z))]
  refine k _ W3 (g2.and gr) ⟨p, ts.map V.ref, rfl, by show B' p = _; rw [hnew p hp, if_pos rfl]; exact hl, ?_⟩
  have r3 : KReps K W3.B ks d.kv := KReps.mono (exExt gr.b) r
  clear k
  have hts' : ∀ t ∈ ts, B' t = H' t := fun t ht => by
    rw [hnew t (hts t ht), if_neg (fun z => hpt (by rw [← z]; exact ht)), if_pos ht]
  have main : ∀ (ts : List Addr) (ks : List (Key × V)) (kv : List (κ × α)), (∀ t ∈ ts, B' t = H' t) → Paired (fun (t : Addr) (q : Key × V) => H' t = some (.tup [kV q.1, q.2])) ts ks → KReps K B' ks kv → Reps K B' (ts.map V.ref) kv := by
    intro ts
    induction ts with
    | nil => intro ks kv _ a b; cases a; cases b; exact .nil
    | cons t ts ih =>
      intro ks kv h a b
      cases a with
      | cons a1 a2 =>
        cases b with
        | cons b1 b2 =>
          refine .cons ⟨t, _, _, rfl, (h t List.mem_cons_self).trans a1, ?_, b1.2⟩ (ih _ _ (fun t' ht' => h t' (List.mem_cons_of_mem _ ht')) a2 b2)
          rw [b1.1]
          exact PyKV.krep _ _ _
  exact main ts ks d.kv hts' hpr r3
/-! slices -/
def cutL (xs : List α) (lo hi : Option Int) : List α := (xs.drop (HT.sIx xs.length 0 lo)).take (HT.sIx xs.length xs.length hi - HT.sIx xs.length 0 lo)
theorem eo_none : EvO ε tNoPart σ W none := fun W1 g1 Q k => k W1 g1.rf
theorem eo_some {i : Int} (h : EvR ε K te σ W i) : EvO ε (tPart te) σ W (some i) := fun W1 g1 Q k => h W1 g1 _ fun v W2 g2 r => ⟨i, r, k W2 g2⟩
theorem ev_slL {tl th : TO} {xs : List α} {lo hi : Option Int} (h : EvR ε K te σ W xs) (h1 : EvO ε tl σ W lo) (h2 : EvO ε th σ W hi) : EvR ε K (tSl (rSlL K) te tl th) σ W (cutL xs lo hi) := fun W1 g1 Q k =>
  h W1 g1 _ fun v W2 g2 rx => h1 W2 (g1.trans g2) _ fun W3 g3 => h2 W3 ((g1.trans g2).trans g3) _ fun W4 g4 => by
    obtain ⟨a, vs, e, s, r⟩ := rep_s g4 (rep_s g3 rx)
    refine ⟨a, vs, e, SqL.of (W4.sub.el s), fun p hp => k _ (W4.add p _) (((g2.trans g3).trans g4).and (W4.grow_add hp)) ⟨p, _, rfl, upd_same, Reps.mono (exExt (W4.grow_add hp).b) ?_⟩⟩
    unfold cutV cutL
    rw [Reps.len r]
    exact Reps.take _ (Reps.drop _ r)
theorem ev_revL {xs : List α} (h : EvR ε K te σ W xs) : EvR ε K (tRevL K te) σ W xs.reverse := fun W1 g1 Q k => h W1 g1 _ fun v W2 g2 ⟨a, vs, e, s, r⟩ =>
  ⟨a, vs, e, SqL.of (W2.sub.el s), fun p hp => k _ (W2.add p _) (g2.and (W2.grow_add hp)) ⟨p, _, rfl, upd_same, Reps.mono (exExt (W2.grow_add hp).b) (Reps.rev r)⟩⟩
end

/-! ### what is walked -/
/-- J walks xs in every world that S tells -/
structure Src {α : Type} [Py α] (K : Fg) (J : It) (S : Wd → Prop) (xs : List α) : Prop where
  go : ∀ i W', S W' → i < xs.length → J.go i W'.H
  yld : ∀ i W' v H'', S W' → i < xs.length → J.yld i W'.H v H'' → ∃ x W'', W''.H = H'' ∧ Grow W' W'' ∧ xs[i]? = some x ∧ rep K W''.B v x
  stop : ∀ i W', S W' → xs.length ≤ i → J.stop i W'.H
def EvI {α : Type} [Py α] (ε : Ef) (K : Fg) (wi : TI) (σ : SS) (W : Wd) (xs : List α) : Prop :=
  ∀ W1, Stp ε W W1 → ∀ R : It → Hp → Prop, (∀ J S W2, Stp ε W1 W2 → S W2 → (∀ W W', S W → Stp ε W W' → S W') → Src K J S xs → R J W2.H) → wi σ W1.H R
def EvJ {α : Type} [Py α] (ε : Ef) (K : Fg) (wi : TI) (σ : SS) (W : Wd) (xs : List α) : Prop :=
  ∀ W1, Stp ε W W1 → ∀ R : It → Hp → Prop, (∀ J W2, Stp ε W1 W2 → Src K J (On W2) xs → R J W2.H) → wi σ W1.H R
section
variable {α β γ : Type} [Py α] [Py β] [Py γ] {K : Fg} {σ : SS} {W W' : Wd} {v : V} {te ta tb : TE} {wi : TI} {ε : Ef}
theorem EvJ.i {xs : List α} (h : EvJ ε K wi σ W xs) : EvI ε K wi σ W xs := fun W1 g1 R k => h W1 g1 R fun J W2 g2 s => k J (On W2) W2 g2 (.refl _) (fun _ _ a b => a.trans b.on) s
theorem ei_list {xs : List α} (h : EvR ε K te σ W xs) : EvJ ε K (iList K te) σ W xs := fun W1 g1 R k => h W1 g1 _ fun v W2 g2 ⟨a, vs, e, s, r⟩ =>
  ⟨a, e, ⟨vs, SqL.of (W2.sub.el s)⟩, k (Itl K a) W2 g2 ⟨fun i W' o hi => by
      obtain ⟨x, hx⟩ : ∃ x, xs[i]? = some x := ⟨xs[i], by simp [hi]⟩
      obtain ⟨v, h1, _⟩ := Reps.get' r hx
      exact ⟨vs, v, SqL.of (W'.sub.el (o.b _ _ s)), h1⟩,
    fun i W' v H'' o hi ⟨e1, e2⟩ => by
      obtain ⟨x, h1, h2⟩ := Reps.get r (e2 vs (SqL.of (W'.sub.el (o.b _ _ s))))
      exact ⟨x, W', e1.symm, .refl _ _, h1, rex o.b h2⟩,
    fun i W' o hi => ⟨vs, SqL.of (W'.sub.el (o.b _ _ s)), by rw [Reps.len r]; exact hi⟩⟩⟩
theorem ei_tup {xs : Tup α} (h : EvR ε K te σ W xs) : EvJ ε K (iTup K te) σ W xs.items := fun W1 g1 R k => h W1 g1 _ fun v W2 g2 ⟨a, vs, e, s, r⟩ =>
  ⟨a, e, ⟨vs, SqT.of (W2.sub.et s)⟩, k (Itt K a) W2 g2 ⟨fun i W' o hi => by
      obtain ⟨x, hx⟩ : ∃ x, xs.items[i]? = some x := ⟨xs.items[i], by simp [hi]⟩
      obtain ⟨v, h1, _⟩ := Reps.get' r hx
      exact ⟨vs, v, SqT.of (W'.sub.et (o.b _ _ s)), h1⟩,
    fun i W' v H'' o hi ⟨e1, e2⟩ => by
      obtain ⟨x, h1, h2⟩ := Reps.get r (e2 vs (SqT.of (W'.sub.et (o.b _ _ s))))
      exact ⟨x, W', e1.symm, .refl _ _, h1, rex o.b h2⟩,
    fun i W' o hi => ⟨vs, SqT.of (W'.sub.et (o.b _ _ s)), by rw [Reps.len r]; exact hi⟩⟩⟩
/-- lo, lo + 1, .. -/
def rng (lo : Int) (n : Nat) : List Int := (List.range n).map fun i => lo + (i : Nat)
theorem rng_len (lo : Int) (n : Nat) : (rng lo n).length = n := by unfold rng; simp
theorem rng_get {lo : Int} {n i : Nat} (h : i < n) : (rng lo n)[i]? = some (lo + (i : Nat)) := by unfold rng; simp [h]
theorem rng_mem {lo k : Int} {n : Nat} : k ∈ rng lo n ↔ lo ≤ k ∧ k < lo + n := by
  unfold rng
  simp only [List.mem_map, List.mem_range]
  constructor
  · rintro ⟨i, h, rfl⟩; omega
  · rintro ⟨h1, h2⟩; exact ⟨(k - lo).toNat, by omega, by omega⟩
theorem src_range {lo : Int} {n : Nat} {S : Wd → Prop} : Src K (Itr lo n) S (rng lo n) :=
  ⟨fun i W' _ hi => by rw [rng_len] at hi; exact hi, fun i W' v H'' _ hi ⟨e1, e2⟩ => ⟨_, W', e1.symm, .refl _ _, rng_get (by rw [rng_len] at hi; exact hi), e2⟩,
    fun i W' _ hi => by rw [rng_len] at hi; exact hi⟩
theorem ei_rng1 {n : Int} (h : EvR ε K ta σ W n) (hn : n ≤ 1000000000) (hm : -1000000000 ≤ n) : EvJ ε K (iRng1 (tCons ta tNil)) σ W (rng 0 n.toNat) := fun W1 g1 R k => h W1 g1 _ fun v W2 g2 r =>
  ⟨n, by rw [show v = _ from r], by omega, by omega, k _ W2 g2 src_range⟩
theorem ei_rng2 {m n : Int} (ha : EvR ε K ta σ W m) (hb : EvR ε K tb σ W n) (h1 : m ≤ 1000000000 ∧ -1000000000 ≤ m ∧ n ≤ 1000000000 ∧ -1000000000 ≤ n) : EvJ ε K (iRng2 (tCons ta (tCons tb tNil))) σ W (rng m (n - m).toNat) := fun W1 g1 R k => ha W1 g1 _ fun v W2 g2 r =>
  hb W2 (g1.trans g2) _ fun u W3 g3 ru => ⟨m, n, by rw [show v = _ from r, show u = _ from ru], by omega, k _ W3 (g2.trans g3) src_range⟩
theorem ei_enum {xs : List α} (h : EvR ε K te σ W xs) : EvJ ε K (iEnum K (tCons te tNil)) σ W ((rng 0 xs.length).zip xs) := fun W1 g1 R k => h W1 g1 _ fun v W2 g2 ⟨a, vs, e, s, r⟩ =>
  ⟨a, vs, by rw [e], SqL.of (W2.sub.el s), k (Ite K a) W2 g2 ⟨fun i W' o hi => by
      have hi' : i < xs.length := by simp [rng_len] at hi; exact hi
      obtain ⟨x, hx⟩ : ∃ x, xs[i]? = some x := ⟨xs[i], by simp [hi']⟩
      obtain ⟨v, h1, _⟩ := Reps.get' r hx
      exact ⟨vs, v, SqL.of (W'.sub.el (o.b _ _ s)), h1⟩,
    fun i W' v H'' o hi ⟨T, x, e1, hT, e2, e3⟩ => by
      have hi' : i < xs.length := by simp [rng_len] at hi; exact hi
      obtain ⟨y, h1, h2⟩ := Reps.get r (e3 vs (SqL.of (W'.sub.el (o.b _ _ s))))
      refine ⟨((i : Int), y), W'.add T _, e2.symm, W'.grow_add hT, ?_, T, .int (i : Nat), x, e1, upd_same, rfl, rep_g (W'.grow_add hT) (rex o.b h2)⟩
      rw [List.getElem?_zip_eq_some]
      exact ⟨by rw [rng_get hi']; simp, h1⟩,
    fun i W' o hi => ⟨vs, SqL.of (W'.sub.el (o.b _ _ s)), by rw [Reps.len r]; simp [rng_len] at hi; exact hi⟩⟩⟩
theorem ei_zip {xs : List α} {ys : List β} (ha : EvR ε K ta σ W xs) (hb : EvR ε K tb σ W ys) : EvJ ε K (iZip K (tCons ta (tCons tb tNil))) σ W (xs.zip ys) := fun W1 g1 R k => ha W1 g1 _ fun v W2 g2 r1 => hb W2 (g1.trans g2) _ fun u W3 g3 r2 => by
  obtain ⟨a, vs, e, s, r⟩ := rep_s g3 r1
  obtain ⟨b, us, e', s', r'⟩ := r2
  refine ⟨a, b, vs, us, by rw [e, e'], SqL.of (W3.sub.el s), SqL.of (W3.sub.el s'), k (Itz K a b) W3 (g2.trans g3) ⟨fun i W' o hi => ?_, fun i W' v H'' o hi ⟨T, x, y, e1, hT, e2, e3, e4⟩ => ?_, fun i W' o hi => ?_⟩⟩
  · have hi' : i < xs.length ∧ i < ys.length := by simp at hi; omega
    obtain ⟨x, hx⟩ : ∃ x, xs[i]? = some x := ⟨xs[i], by simp [hi'.1]⟩
    obtain ⟨y, hy⟩ : ∃ x, ys[i]? = some x := ⟨ys[i], by simp [hi'.2]⟩
    obtain ⟨v, h1, _⟩ := Reps.get' r hx
    obtain ⟨u, h2, _⟩ := Reps.get' r' hy
    exact ⟨vs, us, v, u, SqL.of (W'.sub.el (o.b _ _ s)), SqL.of (W'.sub.el (o.b _ _ s')), h1, h2⟩
  · obtain ⟨p, h1, h2⟩ := Reps.get r (e3 vs (SqL.of (W'.sub.el (o.b _ _ s))))
    obtain ⟨q, h3, h4⟩ := Reps.get r' (e4 us (SqL.of (W'.sub.el (o.b _ _ s'))))
    refine ⟨(p, q), W'.add T _, e2.symm, W'.grow_add hT, ?_, T, x, y, e1, upd_same, rep_g (W'.grow_add hT) (rex o.b h2), rep_g (W'.grow_add hT) (rex o.b h4)⟩
    rw [List.getElem?_zip_eq_some]
    exact ⟨h1, h3⟩
  · refine ⟨vs, us, SqL.of (W'.sub.el (o.b _ _ s)), SqL.of (W'.sub.el (o.b _ _ s')), ?_⟩
    rw [Reps.len r, Reps.len r']
    simp at hi
    omega
end
end B
/-! B: comprehensions, locked dicts, statements, calls -/
namespace B
open PySem L2
open Evl (Ex)
/-! ### an iterated target -/
def GT {α : Type} [Py α] (K : Fg) (g : TG) (P : α → SS → SS → Wd → Prop) : Prop :=
  ∀ x v W σ (Q : SS → Hp → Prop), rep K W.B v x → (∀ σ2, P x σ σ2 W → Q σ2 W.H) → g v σ W.H Q
section
variable {α β γ : Type} [Py α] [Py β] [Py γ] {K : Fg} {σ : SS} {W W' : Wd} {v : V} {te ta tb : TE} {tt : TT} {wi : TI} {g : TG} {vs : List Nat} {ε : Ef}
def PN (K : Fg) (j : Nat) (x : α) (σ σ2 : SS) (W : Wd) : Prop := ∃ v, rep K W.B v x ∧ σ2 = σ.set j (some v)
def PP (K : Fg) (i j : Nat) (x : α × β) (σ σ2 : SS) (W : Wd) : Prop := ∃ v u, rep K W.B v x.1 ∧ rep K W.B u x.2 ∧ σ2 = (σ.set i (some v)).set j (some u)
theorem gt_name {j : Nat} : GT (α := α) K (gName j) (PN K j) := fun x v W σ Q r k => k _ ⟨v, r, rfl⟩
abbrev gPair (K : Fg) (i j : Nat) : TG := gTup K 2 (gCons (gName i) (gCons (gName j) gNil))
theorem gt_pair {i j : Nat} : GT (α := α × β) K (gPair K i j) (PP K i j) := fun x v W σ Q ⟨a, p, q, e, s, r1, r2⟩ k =>
  ⟨a, [p, q], e, SqT.of (W.sub.et s), rfl, p, [q], rfl, q, [], rfl, rfl, k _ ⟨p, q, r1, r2, rfl⟩⟩
/-! ### list comprehensions -/
theorem en_lc {xs : List α} {p : α → Bool} {f : α → β} {P : α → SS → SS → Wd → Prop} (hi : EvI ε K wi σ W xs) (hg : GT K g P)
    (hw : ∀ x σ2 W', P x (wipe σ vs) σ2 W' → wipe σ2 vs = wipe σ vs)
    (ht : ∀ x W' σ2, x ∈ xs → Stp ε W W' → P x (wipe σ vs) σ2 W' → EvT ε tt σ2 W' (p x))
    (he : ∀ x W' σ2, x ∈ xs → p x = true → Stp ε W W' → P x (wipe σ vs) σ2 W' → EvR ε K te σ2 W' (f x))
    (hP : ∀ x σ2 W' W'', P x (wipe σ vs) σ2 W' → Stp ε W' W'' → P x (wipe σ vs) σ2 W'')
    (hl : xs.length ≤ 100000) : EvN ε K (tLc wi g tt te vs) σ W ((xs.filter p).map f) := fun W1 g1 Q k =>
  hi W1 g1 _ fun J S W2 g2 s2 sg src D hD => by
    have DS : D ∉ ε.S := Ef.off g2.i hD
    refine ⟨fun i m H => m = xs.length - i ∧ i ≤ xs.length ∧ ∃ Wi acc, Wi.H = H ∧ Stp ε W2 Wi ∧ Wi.B D = none ∧ Wi.H D = some (.lst acc) ∧ Reps K Wi.B acc (((xs.take i).filter p).map f), ⟨xs.length, rfl, Nat.zero_le _, W2.put D (.lst []) (W2.free hD), [], rfl, ⟨md_mut (.refl _ _) (W2.free hD) hD, i_put DS g2.i _⟩, W2.free hD, upd_same, by simpa using Paired.nil⟩, ?_⟩
    rintro i m H ⟨rfl, hle, Wi, acc, rfl, gi, bD, hDi, rs⟩
    have si : S Wi := sg _ _ s2 gi
    have hacc : acc.length ≤ i := by
      rw [Reps.len rs, List.length_map]
      exact Nat.le_trans (List.length_filter_le _ _) (by rw [List.length_take]; omega)
    by_cases hlt : i < xs.length
    · refine .inr ⟨src.go i Wi si hlt, fun H => i + 1 ≤ xs.length ∧ ∃ Wi acc, Wi.H = H ∧ Stp ε W2 Wi ∧ Wi.B D = none ∧ Wi.H D = some (.lst acc) ∧ Reps K Wi.B acc (((xs.take (i + 1)).filter p).map f), fun H' h' => ⟨_, by omega, rfl, h'⟩, fun v H'' hy => ?_⟩
      obtain ⟨x, W3, rfl, g3', hx, r⟩ := src.yld i Wi v H'' si hlt hy
      have g3 : Stp ε Wi W3 := gi.rf.and g3'
      have hm : x ∈ xs := List.mem_of_getElem? hx
      have tk : xs.take (i + 1) = xs.take i ++ [x] := by rw [List.take_add_one, hx]; rfl
      have m3 := g3.md.mut DS hDi bD
      refine hg x v W3 _ _ r fun σ2 hp => ⟨hw x σ2 W3 hp, ?_⟩
      refine ht x W3 σ2 hm (((g1.trans g2).trans gi).trans g3) hp W3 g3.rf _ fun W4 g4 => ?_
      have m4 := g4.md.mut DS m3.1 m3.2
      cases hpx : p x with
      | true =>
        rw [if_pos rfl]
        refine he x W4 σ2 hm hpx ((((g1.trans g2).trans gi).trans g3).trans g4) (hP x σ2 W3 W4 hp g4) W4 g4.rf _ fun u W5 g5 r5 => ?_
        have m5 := g5.md.mut DS m4.1 m4.2
        refine ⟨acc, m5.1, Evl.sz_lt (by omega), hlt, W5.put D _ m5.2, acc ++ [u], rfl, ⟨md_mut (((gi.trans g3).trans g4).trans g5).md m5.2 hD, i_put DS g5.i _⟩, m5.2, upd_same, ?_⟩
        rw [tk, List.filter_append, List.map_append]
        simp only [List.filter_cons, hpx, if_pos, List.filter_nil, List.map_cons, List.map_nil]
        exact Reps.snoc (Reps.mono (exExt ((g3.trans g4).trans g5).md.b) rs) r5
      | false =>
        rw [if_neg Bool.false_ne_true]
        refine ⟨hlt, W4, acc, rfl, (gi.trans g3).trans g4, m4.2, m4.1, ?_⟩
        rw [tk, List.filter_append, List.map_append]
        simp only [List.filter_cons, hpx, List.filter_nil, List.map_nil, List.append_nil, if_neg Bool.false_ne_true]
        exact Reps.mono (exExt (g3.trans g4).md.b) rs
    · have e : i = xs.length := by omega
      subst e
      rw [List.take_length] at rs
      exact .inl ⟨src.stop _ Wi si (Nat.le_refl _), k D acc Wi (g2.trans gi) (by
        cases e : W1.H D with
        | none => rfl
        | some o => exact absurd hD (g2.md.d D (by rw [e]; exact fun z => by cases z))) bD hDi rs⟩
theorem et_yes : EvT ε tYes σ W true := fun W1 g1 Q k => k W1 g1.rf
theorem wipe1 {j : Nat} {v : V} : wipe ((wipe σ [j]).set j (some v)) [j] = wipe σ [j] := by simp [wipe, List.set_set]
theorem set_none_comm {σ : SS} {i j : Nat} {a : Option V} (h : i ≠ j) : (σ.set i a).set j none = (σ.set j none).set i a := List.set_comm _ _ h
theorem wipe2 {i j : Nat} {v u : V} : wipe (((wipe σ [i, j]).set i (some v)).set j (some u)) [i, j] = wipe σ [i, j] := by
  simp only [wipe]
  by_cases h : i = j
  · subst h; simp [List.set_set]
  · rw [List.set_set, set_none_comm (σ := ((σ.set j none).set i none)) h, List.set_set, List.set_comm (l := σ) _ _ (Ne.symm h), List.set_set]
    rw [List.set_comm (l := σ) _ _ h, List.set_set]
theorem filter_yes (xs : List α) : xs.filter (fun _ => true) = xs := List.filter_eq_self.mpr fun _ _ => rfl
/-- [e for x in ..], [e for x in .. if t] -/
theorem en_lcN {j : Nat} {xs : List α} {f : α → β} (hi : EvI ε K wi σ W xs) (he : ∀ x v W', x ∈ xs → Stp ε W W' → rep K W'.B v x → EvR ε K te ((wipe σ [j]).set j (some v)) W' (f x)) (hl : xs.length ≤ 100000) :
    EvN ε K (tLc wi (gName j) tYes te [j]) σ W (xs.map f) := by
  have := en_lc (ε := ε) (K := K) (wi := wi) (g := gName j) (tt := tYes) (te := te) (vs := [j]) (p := fun _ => true) (f := f) hi gt_name (fun x σ2 W' ⟨v, _, e⟩ => by rw [e]; exact wipe1) (fun _ _ _ _ _ _ => et_yes)
    (fun x W' σ2 hm _ g ⟨v, r, e⟩ => by rw [e]; exact he x v W' hm g r) (fun x σ2 W' W'' ⟨v, r, e⟩ g => ⟨v, rep_s g r, e⟩) hl
  rw [filter_yes] at this
  exact this
theorem ev_lcN {j : Nat} {xs : List α} {f : α → β} (hi : EvI ε K wi σ W xs) (he : ∀ x v W', x ∈ xs → Stp ε W W' → rep K W'.B v x → EvR ε K te ((wipe σ [j]).set j (some v)) W' (f x)) (hl : xs.length ≤ 100000) :
    EvR ε K (tLc wi (gName j) tYes te [j]) σ W (xs.map f) := (en_lcN hi he hl).toR
theorem en_lcNt {j : Nat} {xs : List α} {p : α → Bool} {f : α → β} (hi : EvI ε K wi σ W xs) (ht : ∀ x v W', x ∈ xs → Stp ε W W' → rep K W'.B v x → EvT ε tt ((wipe σ [j]).set j (some v)) W' (p x))
    (he : ∀ x v W', x ∈ xs → p x = true → Stp ε W W' → rep K W'.B v x → EvR ε K te ((wipe σ [j]).set j (some v)) W' (f x)) (hl : xs.length ≤ 100000) :
    EvN ε K (tLc wi (gName j) tt te [j]) σ W ((xs.filter p).map f) :=
  en_lc hi gt_name (fun x σ2 W' ⟨v, _, e⟩ => by rw [e]; exact wipe1) (fun x W' σ2 hm g ⟨v, r, e⟩ => by rw [e]; exact ht x v W' hm g r)
    (fun x W' σ2 hm hp g ⟨v, r, e⟩ => by rw [e]; exact he x v W' hm hp g r) (fun x σ2 W' W'' ⟨v, r, e⟩ g => ⟨v, rep_s g r, e⟩) hl
theorem ev_lcNt {j : Nat} {xs : List α} {p : α → Bool} {f : α → β} (hi : EvI ε K wi σ W xs) (ht : ∀ x v W', x ∈ xs → Stp ε W W' → rep K W'.B v x → EvT ε tt ((wipe σ [j]).set j (some v)) W' (p x))
    (he : ∀ x v W', x ∈ xs → p x = true → Stp ε W W' → rep K W'.B v x → EvR ε K te ((wipe σ [j]).set j (some v)) W' (f x)) (hl : xs.length ≤ 100000) :
    EvR ε K (tLc wi (gName j) tt te [j]) σ W ((xs.filter p).map f) := (en_lcNt hi ht he hl).toR
theorem en_lcP {i j : Nat} {xs : List (α × β)} {f : α × β → γ} (hi : EvI ε K wi σ W xs) (he : ∀ x v u W', x ∈ xs → Stp ε W W' → rep K W'.B v x.1 → rep K W'.B u x.2 → EvR ε K te (((wipe σ [i, j]).set i (some v)).set j (some u)) W' (f x)) (hl : xs.length ≤ 100000) :
    EvN ε K (tLc wi (gPair K i j) tYes te [i, j]) σ W (xs.map f) := by
  have := en_lc (ε := ε) (K := K) (wi := wi) (g := gPair K i j) (tt := tYes) (te := te) (vs := [i, j]) (p := fun _ => true) (f := f) hi gt_pair (fun x σ2 W' ⟨v, u, _, _, e⟩ => by rw [e]; exact wipe2) (fun _ _ _ _ _ _ => et_yes)
    (fun x W' σ2 hm _ g ⟨v, u, r, r', e⟩ => by rw [e]; exact he x v u W' hm g r r') (fun x σ2 W' W'' ⟨v, u, r, r', e⟩ g => ⟨v, u, rep_s g r, rep_s g r', e⟩) hl
  rw [filter_yes] at this
  exact this
theorem ev_lcP {i j : Nat} {xs : List (α × β)} {f : α × β → γ} (hi : EvI ε K wi σ W xs) (he : ∀ x v u W', x ∈ xs → Stp ε W W' → rep K W'.B v x.1 → rep K W'.B u x.2 → EvR ε K te (((wipe σ [i, j]).set i (some v)).set j (some u)) W' (f x)) (hl : xs.length ≤ 100000) :
    EvR ε K (tLc wi (gPair K i j) tYes te [i, j]) σ W (xs.map f) := (en_lcP hi he hl).toR
theorem en_lcPt {i j : Nat} {xs : List (α × β)} {p : α × β → Bool} {f : α × β → γ} (hi : EvI ε K wi σ W xs) (ht : ∀ x v u W', x ∈ xs → Stp ε W W' → rep K W'.B v x.1 → rep K W'.B u x.2 → EvT ε tt (((wipe σ [i, j]).set i (some v)).set j (some u)) W' (p x))
    (he : ∀ x v u W', x ∈ xs → p x = true → Stp ε W W' → rep K W'.B v x.1 → rep K W'.B u x.2 → EvR ε K te (((wipe σ [i, j]).set i (some v)).set j (some u)) W' (f x)) (hl : xs.length ≤ 100000) :
    EvN ε K (tLc wi (gPair K i j) tt te [i, j]) σ W ((xs.filter p).map f) :=
  en_lc hi gt_pair (fun x σ2 W' ⟨v, u, _, _, e⟩ => by rw [e]; exact wipe2) (fun x W' σ2 hm g ⟨v, u, r, r', e⟩ => by rw [e]; exact ht x v u W' hm g r r')
    (fun x W' σ2 hm hp g ⟨v, u, r, r', e⟩ => by rw [e]; exact he x v u W' hm hp g r r') (fun x σ2 W' W'' ⟨v, u, r, r', e⟩ g => ⟨v, u, rep_s g r, rep_s g r', e⟩) hl
theorem ev_lcPt {i j : Nat} {xs : List (α × β)} {p : α × β → Bool} {f : α × β → γ} (hi : EvI ε K wi σ W xs) (ht : ∀ x v u W', x ∈ xs → Stp ε W W' → rep K W'.B v x.1 → rep K W'.B u x.2 → EvT ε tt (((wipe σ [i, j]).set i (some v)).set j (some u)) W' (p x))
    (he : ∀ x v u W', x ∈ xs → p x = true → Stp ε W W' → rep K W'.B v x.1 → rep K W'.B u x.2 → EvR ε K te (((wipe σ [i, j]).set i (some v)).set j (some u)) W' (f x)) (hl : xs.length ≤ 100000) :
    EvR ε K (tLc wi (gPair K i j) tt te [i, j]) σ W ((xs.filter p).map f) := (en_lcPt hi ht he hl).toR
end

/-! ### a dict, locked -/
structure Lk (W WL : Wd) (d : Addr) (ks : List (Key × V)) : Prop where
  b : Ex W.B WL.B
  lk : ∃ od, WL.H d = some (.frz od (.dK ks))
  h : ∀ a o, a ≠ d → W.H a = some o → WL.H a = some o
section
variable {α β : Type} [Py α] [Py β] {K : Fg} {σ : SS} {W W' : Wd} {v : V} {te : TE} {t : TE} {ε : Ef}
theorem rep_lk {WL : Wd} {d : Addr} {ks : List (Key × V)} {x : α} (l : Lk W WL d ks) (h : rep K W.B v x) : rep K WL.B v x := rex l.b h
theorem ev_lock {d : Addr} {ks : List (Key × V)} {x : α} (hd : W.H d = some (.dK ks)) (h : ∀ WL, Lk W WL d ks → EvR pur K t σ WL x) : EvR pur K (tLockE t) σ W x := fun W1 g1' Q k => by
  have g1 := g1'.pure
  have hd1 := g1.h _ _ hd
  refine ⟨d, _, hd1, trivial, fun od => ?_⟩
  have sub : Ext W1.B (upd W1.H d (.frz od (.dK ks))) := fun a o e => by
    by_cases q : a = d
    · subst q
      rcases W1.sub a o e with h1 | ⟨⟨k', rfl⟩, ob, h1⟩
      · rw [hd1] at h1; cases h1
        exact .inr ⟨⟨ks, rfl⟩, od, upd_same⟩
      · rw [hd1] at h1; cases h1
    · rw [upd_ne q]; exact W1.sub a o e
  let WL : Wd := ⟨W1.B, upd W1.H d (.frz od (.dK ks)), sub⟩
  have lk : Lk W WL d ks := ⟨g1.b, ⟨od, upd_same⟩, fun a o q e => by
    show upd W1.H d _ a = some o
    rw [upd_ne q]; exact g1.h a o e⟩
  refine h WL lk WL (.start trivial) _ fun v W2 g2' r => ?_
  have g2 := g2'.pure
  have h2 : W2.H d = some (.frz od (.dK ks)) := g2.h _ _ upd_same
  refine ⟨h2, ?_⟩
  have hB : W2.B d = W1.B d := g2.m d ⟨.frz od (.dK ks), upd_same, fun _ z => by cases z⟩
  have sub3 : Ext W2.B (upd W2.H d (.dK ks)) := fun a o e => by
    by_cases q : a = d
    · subst q
      rw [hB] at e
      rcases W1.sub a o e with h1 | ⟨⟨k', rfl⟩, ob, h1⟩
      · rw [hd1] at h1; cases h1; exact .inl upd_same
      · rw [hd1] at h1; cases h1
    · rw [upd_ne q]; exact W2.sub a o e
  refine k v ⟨W2.B, upd W2.H d (.dK ks), sub3⟩ (.of (.mk g2.b (fun a o e => ?_) (fun a ha => ?_))) r
  · show upd W2.H d (.dK ks) a = some o
    by_cases q : a = d
    · subst q; rw [hd1] at e; cases e; exact upd_same
    · rw [upd_ne q]
      exact g2.h a o (by show upd W1.H d _ a = some o; rw [upd_ne q]; exact e)
  · refine g2.m a ?_
    show Nt (upd W1.H d _) a
    by_cases q : a = d
    · subst q; exact ⟨_, upd_same, fun _ z => by cases z⟩
    · obtain ⟨u, e, hu⟩ := ha
      exact ⟨u, (upd_ne q).trans e, hu⟩
section
variable {κ : Type} [PyKV κ] {d : Addr} {ks : List (Key × V)} {kv : List (κ × α)}
theorem ei_items {WL : Wd} (hv : EvR pur K te σ WL (Raw.mk (.ref d))) (lk : ∃ od, WL.H d = some (.frz od (.dK ks))) (r : KReps K WL.B ks kv) : EvI pur K (iItems te) σ WL kv := fun W1 g1 R k => hv W1 g1 _ fun v W2 g2 e => by
  obtain ⟨od, hod⟩ := lk
  have h2 := (g1.trans g2).pure.h _ _ hod
  refine ⟨d, od, ks, e, h2, k (Iti d od ks) (fun W' => W'.H d = some (.frz od (.dK ks)) ∧ Ex WL.B W'.B) W2 g2 ⟨h2, (g1.trans g2).md.b⟩ (fun W W' ⟨a, b⟩ g => ⟨g.pure.h _ _ a, b.trans g.md.b⟩) ⟨fun i W' s hi => ⟨s.1, by rw [KReps.len r]; exact hi⟩, fun i W' v H'' s hi ⟨T, k', v', h1, e1, hT, e2⟩ => ?_, fun i W' s hi => ⟨s.1, by rw [KReps.len r]; exact hi⟩⟩⟩
  obtain ⟨q, hq, hk, hr⟩ := KReps.get r h1
  refine ⟨q, W'.add T _, e2.symm, W'.grow_add hT, hq, T, _, _, e1, upd_same, ?_, rep_g (W'.grow_add hT) (rex s.2 hr)⟩
  rw [hk]
  exact PyKV.krep _ _ _
theorem ei_keys {WL : Wd} (hv : EvR pur K te σ WL (Raw.mk (.ref d))) (lk : ∃ od, WL.H d = some (.frz od (.dK ks))) (r : KReps K WL.B ks kv) : EvI pur K (iKeys te) σ WL (kv.map (·.1)) := fun W1 g1 R k => hv W1 g1 _ fun v W2 g2 e => by
  obtain ⟨od, hod⟩ := lk
  have h2 := (g1.trans g2).pure.h _ _ hod
  refine ⟨d, od, e, .inl ⟨ks, h2, k (Itk d od ks) (fun W' => W'.H d = some (.frz od (.dK ks)) ∧ Ex WL.B W'.B) W2 g2 ⟨h2, (g1.trans g2).md.b⟩ (fun W W' ⟨a, b⟩ g => ⟨g.pure.h _ _ a, b.trans g.md.b⟩) ⟨fun i W' s hi => ⟨s.1, by rw [KReps.len r]; simpa using hi⟩, fun i W' v H'' s hi ⟨e2, k', v', h1, e1⟩ => ?_, fun i W' s hi => ⟨s.1, by rw [KReps.len r]; simpa using hi⟩⟩⟩⟩
  obtain ⟨q, hq, hk, hr⟩ := KReps.get r h1
  exact ⟨q.1, W', e2.symm, .refl _ _, by simp [hq], by rw [e1, hk]; exact PyKV.krep _ _ _⟩
theorem ei_vals {WL : Wd} (hv : EvR pur K te σ WL (Raw.mk (.ref d))) (lk : ∃ od, WL.H d = some (.frz od (.dK ks))) (r : KReps K WL.B ks kv) : EvI pur K (iVals te) σ WL (kv.map (·.2)) := fun W1 g1 R k => hv W1 g1 _ fun v W2 g2 e => by
  obtain ⟨od, hod⟩ := lk
  have h2 := (g1.trans g2).pure.h _ _ hod
  refine ⟨d, od, ks, e, h2, k (Itd d od ks) (fun W' => W'.H d = some (.frz od (.dK ks)) ∧ Ex WL.B W'.B) W2 g2 ⟨h2, (g1.trans g2).md.b⟩ (fun W W' ⟨a, b⟩ g => ⟨g.pure.h _ _ a, b.trans g.md.b⟩) ⟨fun i W' s hi => ⟨s.1, by rw [KReps.len r]; simpa using hi⟩, fun i W' v H'' s hi ⟨e2, k', h1⟩ => ?_, fun i W' s hi => ⟨s.1, by rw [KReps.len r]; simpa using hi⟩⟩⟩
  obtain ⟨q, hq, hk, hr⟩ := KReps.get r h1
  exact ⟨q.2, W', e2.symm, .refl _ _, by simp [hq], rex s.2 hr⟩
end
end

/-! ### statements -/
section
variable {α β γ : Type} [Py α] [Py β] [Py γ] {K : Fg} {σ : SS} {W : Wd} {D : Ends} {te ta tb : TE} {t : TT} {tu tw tz : TS} {x : α} {y : β} {ε : Ef}
theorem s_asgP {P : V → Wd → Prop} {i : Nat} (h : EvP ε te σ W P) (s : ε.I W) (k : ∀ v W', Stp ε W W' → P v W' → D.nx (σ.set i (some v)) W'.H) : tAsg te (gName i) D σ W.H := h W (.start s) _ k
theorem q_asgP {P : V → Wd → Prop} {i : Nat} (h : EvP ε te σ W P) (s : ε.I W) (k : ∀ v W', Stp ε W W' → P v W' → tz D (σ.set i (some v)) W'.H) : tSeq (tAsg te (gName i)) tz D σ W.H := h W (.start s) _ k
theorem q_asg {i : Nat} (h : EvR ε K te σ W x) (s : ε.I W) (k : ∀ v W', Stp ε W W' → rep K W'.B v x → tz D (σ.set i (some v)) W'.H) : tSeq (tAsg te (gName i)) tz D σ W.H := h W (.start s) _ k
theorem s_asg {i : Nat} (h : EvR ε K te σ W x) (s : ε.I W) (k : ∀ v W', Stp ε W W' → rep K W'.B v x → D.nx (σ.set i (some v)) W'.H) : tAsg te (gName i) D σ W.H := h W (.start s) _ k
theorem q_asgN {xs : List α} {i : Nat} (h : EvN ε K te σ W xs) (s : ε.I W) (k : ∀ p vs W', Stp ε W W' → W.H p = none → W'.B p = none → W'.H p = some (.lst vs) → Reps K W'.B vs xs → tz D (σ.set i (some (.ref p))) W'.H) : tSeq (tAsg te (gName i)) tz D σ W.H := h W (.start s) _ k
theorem s_asgN {xs : List α} {i : Nat} (h : EvN ε K te σ W xs) (s : ε.I W) (k : ∀ p vs W', Stp ε W W' → W.H p = none → W'.B p = none → W'.H p = some (.lst vs) → Reps K W'.B vs xs → D.nx (σ.set i (some (.ref p))) W'.H) : tAsg te (gName i) D σ W.H := h W (.start s) _ k
theorem s_retN {xs : List α} (h : EvN ε K te σ W xs) (s : ε.I W) (k : ∀ p vs W', Stp ε W W' → W.H p = none → W'.B p = none → W'.H p = some (.lst vs) → Reps K W'.B vs xs → D.rt (.ref p) W'.H) : tRet te D σ W.H := h W (.start s) _ k
theorem s_ret (h : EvR ε K te σ W x) (s : ε.I W) (k : ∀ v W', Stp ε W W' → rep K W'.B v x → D.rt v W'.H) : tRet te D σ W.H := h W (.start s) _ k
theorem s_retP {P : V → Wd → Prop} (h : EvP ε te σ W P) (s : ε.I W) (k : ∀ v W', Stp ε W W' → P v W' → D.rt v W'.H) : tRet te D σ W.H := h W (.start s) _ k
theorem s_if {b : Bool} (h : EvT ε t σ W b) (s : ε.I W) (h1 : b = true → ∀ W', Stp ε W W' → tu D σ W'.H) (h2 : b = false → ∀ W', Stp ε W W' → tw D σ W'.H) : tIfS t tu tw D σ W.H := h W (.start s) _ fun W' g => by
  cases b with
  | true => rw [if_pos rfl]; exact h1 rfl W' g
  | false => rw [if_neg Bool.false_ne_true]; exact h2 rfl W' g
theorem q_if {b : Bool} (h : EvT ε t σ W b) (s : ε.I W) (h1 : b = true → ∀ W', Stp ε W W' → tu { D with nx := tz D } σ W'.H) (h2 : b = false → ∀ W', Stp ε W W' → tw { D with nx := tz D } σ W'.H) : tSeq (tIfS t tu tw) tz D σ W.H := s_if (D := { D with nx := tz D }) h s h1 h2
/-- an if without else -/
theorem q_when {b : Bool} (h : EvT ε t σ W b) (s : ε.I W) (h1 : b = true → ∀ W', Stp ε W W' → tu { D with nx := tz D } σ W'.H) (h2 : b = false → ∀ W', Stp ε W W' → tz D σ W'.H) : tSeq (tIfS t tu tNext) tz D σ W.H := s_if (D := { D with nx := tz D }) h s h1 h2
theorem s_when {b : Bool} (h : EvT ε t σ W b) (s : ε.I W) (h1 : b = true → ∀ W', Stp ε W W' → tu D σ W'.H) (h2 : b = false → ∀ W', Stp ε W W' → D.nx σ W'.H) : tIfS t tu tNext D σ W.H := s_if h s h1 h2
theorem q_drop {P : V → Wd → Prop} (h : EvP ε te σ W P) (s : ε.I W) (k : ∀ v W', Stp ε W W' → P v W' → tz D σ W'.H) : tSeq (tDrop te) tz D σ W.H := h W (.start s) _ k
theorem q_augI {i : Nat} {f : Int → Int → Int} {a b : Int} (hx : σ[i]? = some (some (.int a))) (h : EvR ε K te σ W b) (s : ε.I W) (k : ∀ W', Stp ε W W' → tz D (σ.set i (some (.int (f a b)))) W'.H) : tSeq (tAug i te (ipI f)) tz D σ W.H :=
  ⟨_, hx, h W (.start s) _ fun u W' g ru => ⟨a, b, rfl, ru, k W' g⟩⟩
theorem s_augI {i : Nat} {f : Int → Int → Int} {a b : Int} (hx : σ[i]? = some (some (.int a))) (h : EvR ε K te σ W b) (s : ε.I W) (k : ∀ W', Stp ε W W' → D.nx (σ.set i (some (.int (f a b)))) W'.H) : tAug i te (ipI f) D σ W.H :=
  ⟨_, hx, h W (.start s) _ fun u W' g ru => ⟨a, b, rfl, ru, k W' g⟩⟩
/-- a, b = x, y -/
theorem q_par {i j : Nat} {P R : V → Wd → Prop} (ha : EvP ε ta σ W P) (hb : EvP ε tb σ W R) (s : ε.I W) (mono : ∀ v W W', Stp ε W W' → P v W → P v W')
    (k : ∀ v u W', Stp ε W W' → P v W' → R u W' → tz D ((σ.set i (some v)).set j (some u)) W'.H) : tSeq (tPar i j (tCons ta (tCons tb tNil))) tz D σ W.H :=
  ha W (.start s) _ fun v W1 g1 p => hb W1 g1 _ fun u W2 g2 r => ⟨v, u, rfl, k v u W2 (g1.trans g2) (mono v W1 W2 g2 p) r⟩
/-- the turns of a for over what J walks: Pv by the turn, the slots, the world -/
theorem for_src {g : TG} {xs : List α} {J : It} {W2 : Wd} (src : Src K J (On W2) xs) (Pv : Nat → SS → Wd → Prop) (h0 : Pv 0 σ W2) (hon : ∀ i σ' W', Pv i σ' W' → On W2 W')
    (hs : ∀ i x v σ' W' W'', i < xs.length → xs[i]? = some x → Pv i σ' W' → Grow W' W'' → rep K W''.B v x → g v σ' W''.H fun σ2 H2 => tu { D with nx := fun σ H => ∃ W, W.H = H ∧ Pv (i + 1) σ W, ct := fun σ H => ∃ W, W.H = H ∧ Pv (i + 1) σ W, bk := D.nx } σ2 H2)
    (hd : ∀ σ' W', Pv xs.length σ' W' → D.nx σ' W'.H) :
    ∃ W : Nat → Nat → SS → Hp → Prop, (∃ m, W 0 m σ W2.H) ∧ ∀ i m σ H, W i m σ H →
      (J.stop i H ∧ D.nx σ H) ∨ (J.go i H ∧ ∃ N : SS → Hp → Prop, (∀ σ' H', N σ' H' → ∃ m', m' < m ∧ W (i + 1) m' σ' H') ∧ ∀ x H', J.yld i H x H' → g x σ H' fun σ2 H2 => tu { D with nx := N, ct := N, bk := D.nx } σ2 H2) := by
  refine ⟨fun i m σ H => m = xs.length - i ∧ i ≤ xs.length ∧ ∃ W, W.H = H ∧ Pv i σ W, ⟨xs.length, rfl, Nat.zero_le _, W2, rfl, h0⟩, ?_⟩
  rintro i m σ' H ⟨rfl, hle, W', rfl, p⟩
  by_cases hlt : i < xs.length
  · refine .inr ⟨src.go i W' (hon i σ' W' p) hlt, fun σ H => ∃ W, W.H = H ∧ Pv (i + 1) σ W, fun σ'' H'' q => ⟨_, by omega, rfl, hlt, q⟩, fun v H'' hy => ?_⟩
    obtain ⟨x, W'', rfl, gg, hx, r⟩ := src.yld i W' v H'' (hon i σ' W' p) hlt hy
    exact hs i x v σ' W' W'' hlt hx p gg r
  · have e : i = xs.length := by omega
    subst e
    exact .inl ⟨src.stop _ W' (hon _ _ _ p) (Nat.le_refl _), hd σ' W' p⟩
/-- for target in .. -/
theorem s_for {wi : TI} {g : TG} {xs : List α} (hi : EvJ ε K wi σ W xs) (s : ε.I W)
    (k : ∀ W2, Stp ε W W2 → ∃ Pv : Nat → SS → Wd → Prop, Pv 0 σ W2 ∧ (∀ i σ' W', Pv i σ' W' → On W2 W') ∧
      (∀ i x v σ' W' W'', i < xs.length → xs[i]? = some x → Pv i σ' W' → Grow W' W'' → rep K W''.B v x → g v σ' W''.H fun σ2 H2 => tu { D with nx := fun σ H => ∃ W, W.H = H ∧ Pv (i + 1) σ W, ct := fun σ H => ∃ W, W.H = H ∧ Pv (i + 1) σ W, bk := D.nx } σ2 H2) ∧
      (∀ σ' W', Pv xs.length σ' W' → D.nx σ' W'.H)) : tFor wi g tu D σ W.H := hi W (.start s) _ fun J W2 g2 src => by
  obtain ⟨Pv, h0, hon, hs, hd⟩ := k W2 g2
  exact for_src src Pv h0 hon hs hd
theorem q_for {wi : TI} {g : TG} {xs : List α} (hi : EvJ ε K wi σ W xs) (s : ε.I W)
    (k : ∀ W2, Stp ε W W2 → ∃ Pv : Nat → SS → Wd → Prop, Pv 0 σ W2 ∧ (∀ i σ' W', Pv i σ' W' → On W2 W') ∧
      (∀ i x v σ' W' W'', i < xs.length → xs[i]? = some x → Pv i σ' W' → Grow W' W'' → rep K W''.B v x → g v σ' W''.H fun σ2 H2 => tu { D with nx := fun σ H => ∃ W, W.H = H ∧ Pv (i + 1) σ W, ct := fun σ H => ∃ W, W.H = H ∧ Pv (i + 1) σ W, bk := tz D } σ2 H2) ∧
      (∀ σ' W', Pv xs.length σ' W' → tz D σ' W'.H)) : tSeq (tFor wi g tu) tz D σ W.H := s_for (D := { D with nx := tz D }) hi s k
/-- for k in range(a drawn number) -/
theorem for_rng {j : Nat} {n : Int} {W2 : Wd} (Pv : Nat → SS → Wd → Prop) (h0 : Pv 0 σ W2) (hon : ∀ i σ' W', Pv i σ' W' → On W2 W')
    (hs : ∀ (i : Nat) σ' W', (i : Int) < n → Pv i σ' W' → tu { D with nx := fun σ H => ∃ W, W.H = H ∧ Pv (i + 1) σ W, ct := fun σ H => ∃ W, W.H = H ∧ Pv (i + 1) σ W, bk := D.nx } (σ'.set j (some (.int (i : Int)))) W'.H)
    (hd : ∀ σ' W', Pv n.toNat σ' W' → D.nx σ' W'.H) :
    ∃ W : Nat → Nat → SS → Hp → Prop, (∃ m, W 0 m σ W2.H) ∧ ∀ i m σ H, W i m σ H →
      ((Itr 0 n.toNat).stop i H ∧ D.nx σ H) ∨ ((Itr 0 n.toNat).go i H ∧ ∃ N : SS → Hp → Prop, (∀ σ' H', N σ' H' → ∃ m', m' < m ∧ W (i + 1) m' σ' H') ∧ ∀ x H', (Itr 0 n.toNat).yld i H x H' → gName j x σ H' fun σ2 H2 => tu { D with nx := N, ct := N, bk := D.nx } σ2 H2) :=
  L2.for_range (fun i σ H => ∃ W, W.H = H ∧ Pv i σ W) ⟨W2, rfl, h0⟩ (fun i σ H hi ⟨W', e, p⟩ => by
    subst e
    have := hs i σ W' (by omega) p
    show tu _ (σ.set j (some (.int (0 + (i : Nat))))) W'.H
    rw [Int.zero_add]; exact this) (fun σ H ⟨W', e, p⟩ => by subst e; exact hd σ W' p)
/-- while -/
theorem s_while (Wm : Nat → SS → Wd → Prop) (m0 : Nat) (h0 : Wm m0 σ W)
    (hs : ∀ m σ' W', Wm m σ' W' → ε.I W' ∧ ∃ b, EvT ε t σ' W' b ∧ (b = true → ∀ W'', Stp ε W' W'' → tu { D with nx := fun σ H => ∃ m' W, m' < m ∧ W.H = H ∧ Wm m' σ W, ct := fun σ H => ∃ m' W, m' < m ∧ W.H = H ∧ Wm m' σ W, bk := D.nx } σ' W''.H) ∧ (b = false → ∀ W'', Stp ε W' W'' → D.nx σ' W''.H)) : tWhile t tu D σ W.H := by
  refine ⟨fun m σ H => ∃ W, W.H = H ∧ Wm m σ W, ⟨m0, W, rfl, h0⟩, ?_⟩
  rintro m σ' H ⟨W', rfl, w⟩
  obtain ⟨hI, b, ht, h1, h2⟩ := hs m σ' W' w
  refine ht W' (.start hI) _ fun W'' g => ?_
  cases b with
  | true =>
    rw [if_pos rfl]
    exact ⟨fun σ H => ∃ m' W, m' < m ∧ W.H = H ∧ Wm m' σ W, fun σ2 H2 ⟨m', W, hm, e, q⟩ => ⟨m', hm, W, e, q⟩, h1 rfl W'' g⟩
  | false =>
    rw [if_neg Bool.false_ne_true]
    exact h2 rfl W'' g

/-! ### calls of defs -/
theorem ev_callP1 {P R : V → Wd → Prop} {sp : Sp} {E : XK} (ha : EvP ε ta σ W P) (hs : ∀ v W1, Stp ε W W1 → P v W1 → ∀ Q : VK, (∀ u W2, Stp ε W1 W2 → R u W2 → Q u W2.H) → sp [v] W1.H Q E) : EvP ε (tCall sp [] E (tCons ta tNil)) σ W R := fun W1 g1 Q k =>
  ha W1 g1 _ fun v W2 g2 p => hs v W2 (g1.trans g2) p Q fun u W3 g3 r => k u W3 (g2.trans g3) r
theorem ev_callP2 {P P2 R : V → Wd → Prop} {sp : Sp} {E : XK} (ha : EvP ε ta σ W P) (hb : EvP ε tb σ W P2) (mono : ∀ v W W', Stp ε W W' → P v W → P v W')
    (hs : ∀ v v2 W1, Stp ε W W1 → P v W1 → P2 v2 W1 → ∀ Q : VK, (∀ u W2, Stp ε W1 W2 → R u W2 → Q u W2.H) → sp [v, v2] W1.H Q E) : EvP ε (tCall sp [] E (tCons ta (tCons tb tNil))) σ W R := fun W1 g1 Q k =>
  ha W1 g1 _ fun v W2 g2 p => hb W2 (g1.trans g2) _ fun v2 W3 g3 p2 => hs v v2 W3 ((g1.trans g2).trans g3) (mono v W2 W3 g3 p) p2 Q fun u W4 g4 r => k u W4 ((g2.trans g3).trans g4) r
end
end B
/-! B: short names of readings, more derivations -/
namespace B
open PySem L2
open Evl (Ex)
abbrev oAdd : R2 := rI0 fun i j => .int (i + j)
abbrev oSub : R2 := rI0 fun i j => .int (i - j)
abbrev oMul : R2 := rI CMul fun i j => .int (i * j)
abbrev oDiv : R2 := rI CDiv fun i j => .int (i / j)
abbrev oMod : R2 := rI (fun _ j => 0 < j) fun i j => .int (i % j)
abbrev oPow : R2 := rI CPow fun i j => .int (i ^ j.toNat)
abbrev oLt : R2 := rI0 fun i j => .bl (decide (i < j))
abbrev oLe : R2 := rI0 fun i j => .bl (decide (i ≤ j))
abbrev oGt : R2 := rI0 fun i j => .bl (decide (j < i))
abbrev oGe : R2 := rI0 fun i j => .bl (decide (j ≤ i))
abbrev oNeg : V → Hp → VK → Prop := rU fun i => .int (-i)
abbrev oIsN : R2 := fun x y H Q => y = .non ∧ Q (.bl (decide (x = .non))) H
abbrev oNotN : R2 := fun x y H Q => y = .non ∧ Q (.bl (!decide (x = .non))) H
abbrev oCatS : R2 := fun x y H Q => ∃ i j, x = .str i ∧ y = .str j ∧ i.length + j.length ≤ sizeLine ∧ Q (.str (i ++ j)) H
abbrev oLtS : R2 := fun x y H Q => ∃ i j, x = .str i ∧ y = .str j ∧ Q (.bl (decide (i.cps.toList < j.cps.toList))) H
abbrev oInS : R2 := fun x y H Q => ∃ i j, x = .str i ∧ y = .str j ∧ Q (.bl (!(Builtin.Str.occurrences j i 0 j.length 1).isEmpty)) H
abbrev tTru (K : Fg) (ta : TE) : TT := fun σ H Q => ta σ H fun x H' => ∃ k, TruV K x H' k ∧ Q k H'
abbrev rInt1 : List V → Hp → VK → Prop := fun xs H Q => (∃ i, xs = [.int i] ∧ Q (.int i) H) ∨ ∃ k, xs = [.bl k] ∧ Q (.int (if k then 1 else 0)) H
abbrev rTupleO (K : Fg) : List V → Hp → VK → Prop := fun xs H Q => ∃ p ys, xs = [.ref p] ∧ ((SqL K H p ys ∧ ∀ l, H l = none → Q (.ref l) (upd H l (.tup ys))) ∨ (SqT K H p ys ∧ Q (.ref p) H))
abbrev rLenD : List V → Hp → VK → Prop := fun xs H Q => ∃ a kvs, xs = [V.ref a] ∧ H a = some (.dK kvs) ∧ Q (.int kvs.length) H
theorem cr_tupleO {X : Cx} : CallR X (.type "tuple") (rTupleO X.K) := call_tuple_of
theorem cr_lenD {X : Cx} : CallR X (.builtin "len") rLenD := call_lenD

/-! ### name = {k: v for ..} -/
section
variable {X : Cx}
theorem ps_setDc {i : Nat} {y : Str} {py : Pos} {kx vx tg iter : Expr} {ifs : List Expr} {scope : Scope} {own : List (Str × Nat)} {pos spos : Pos} {wi : TI} {g : TG} {tt : TT} {tk tv : TE} (hc : X.calm = true) (hN : X.N.Nodup) (hy : X.N[i]? = some y) (hyl : X.env.scope.names.lookup y = some .local)
    (hsw : swapsWith (.DictComp kx vx [⟨tg, iter, ifs, 0⟩] scope pos) (some (.Name y py)) spos.line X.env = pure true) (hi : PI X tg iter wi) (ok : BlkOk X.N X.env.scope scope own)
    (hg : ∀ (s : Shared) (H : Hp) (C : Addr) (cl : List (Str × Addr)) (fp : List Addr), PG (X.blk s H scope (compEnvC scope cl C X.env) fp) tg g) (ht : ∀ (s : Shared) (H : Hp) (C : Addr) (cl : List (Str × Addr)) (fp : List Addr), PTs (X.blk s H scope (compEnvC scope cl C X.env) fp) ifs tt)
    (hk : ∀ (s : Shared) (H : Hp) (C : Addr) (cl : List (Str × Addr)) (fp : List Addr), PE (X.blk s H scope (compEnvC scope cl C X.env) fp) kx tk)
    (he : ∀ (s : Shared) (H : Hp) (C : Addr) (cl : List (Str × Addr)) (fp : List Addr), PE (X.blk s H scope (compEnvC scope cl C X.env) fp) vx tv) (hs : ∀ x, foldedSetIterable iter X.env x = pure x := by intro _; rfl) :
    PS X (.Assign [.Name y py] (.DictComp kx vx [⟨tg, iter, ifs, 0⟩] scope pos) spos) (tAsg (tDc wi g tt tk tv (own.map (·.2))) (gName i)) := by
  refine ⟨fun pins s σ H D I h => ?_⟩
  rw [exec_Assign_Name_used _ _ _ _ hsw]
  refine wpAny_bind (wpAny_standAt (wpAny_bind ?_))
  show wpAny _ X.A (do let _ ← comprehension (.DictComp kx vx [⟨tg, iter, ifs, 0⟩] scope pos) scope X.env (firstIterPos [⟨tg, iter, ifs, 0⟩] pos) newDict false (eval iter X.env) (some (assign (.Name y py) X.env))) _ _ s
  have h : tDc wi g tt tk tv (own.map (·.2)) σ H (fun x H1 => gName i x σ H1 D.nx) := h
  refine wpAny_bind (thn (dc_core (Qf := fun _ s' => SP X pins D .next s') hc hN I hi ok hg ht hk he hs h fun L C s' m H' I' q hn f => ?_) fun _ s' hq => wpAny_pure (wpAny_pure hq))
  show wpAny _ _ (assign (.Name y py) X.env (.ref L)) _ _ _
  refine wpAny_assign_Name (store_ok2 (v := V.ref L) I' hN hy (.inl hyl) rfl (fun s2 I2 ⟨a, sb, ha⟩ => ?_) (.inr hyl))
  obtain ⟨f0, f1, f2, f3, f4, f5⟩ := f
  have haC : C ≠ a := by
    rcases ha with z | z
    · rw [z]; exact f1
    · exact fun e => f4 y a z e.symm
  refine ⟨m, hn.sameBut sb haC, fun h3 sb3 => ?_⟩
  exact ⟨_, H', I2.turned (t' := s2.toks) (fun b o hb e => (sb3.2 b hb).trans e) f0 f1 f3 f4 f5, q⟩
theorem sw_trueD {kx vx : Expr} {gs : List Comprehension} {scope : Scope} {pos py : Pos} {y : Str} {l : Nat} {env : Env} (hk : env.scope.kind = .function) (hy : env.scope.names.lookup y = some .local) (hl : (py.line == pos.line) = true)
    (ha : (scope.names.any fun (n, k) => n == y && (k == .local || k == .cell)) = false) : swapsWith (.DictComp kx vx gs scope pos) (some (.Name y py)) l env = pure true := by
  have ky : env.kindOf y = some .local := hy
  have hb : env.blockKind = .function := by unfold Env.blockKind; rw [hk]; rfl
  unfold swapsWith
  simp only [hb, ky, ha, Expr.pos, hl]
  rfl
end

/-! ### f(k = v, ..) -/
def perm {ζ : Type} (l : List Nat) (ws : List ζ) : List ζ := l.filterMap fun i => ws[i]?
theorem perm_rel (l : List Nat) {vs : List V} {us : List Value} (r : Vals vs us) : Vals (perm l vs) (perm l us) := by
  induction l with
  | nil => exact .nil
  | cons i l ih =>
    unfold perm
    rw [List.filterMap_cons, List.filterMap_cons]
    cases e : vs[i]? with
    | none =>
      rw [r.none_of e]
      exact ih
    | some v =>
      obtain ⟨u, h1, h2⟩ := r.get e
      rw [h1]
      exact .cons h2 ih
def KwB (K : Fg) (fd : FuncData) (ps ks : List Str) (l : List Nat) : Prop := ∀ (s : Shared) (ws : List Value), K.In s.heap → ws.length = ks.length → BindsTo s fd ⟨[], ks.zip ws⟩ (ps.zip (perm l ws))
theorem kwb_mk {K : Fg} {x qual : Str} {st : Stmt} {f : Addr} {fd : FuncData} {ps ks : List Str} {l : List Nat} (F : Fun K x qual st f fd)
    (h : ∀ (kV doc pm : Value) (an : Option Addr) (cdv ct : Value) (us : List Value), us.length = ks.length → bindArgs (PySem.W.fnOf x qual (defArgs st) (defBody st) (defScope st) .none kV doc pm an cdv ct) ⟨[], ks.zip us⟩ = pure (ps.zip (perm l us))) : KwB K fd ps ks l := by
  obtain ⟨oc, od, kV, doc, pm, an, cdv, ct, osl, rfl, lk, hcd⟩ := F.ex
  exact fun s ws _ hl => .of_eq (h kV doc pm an cdv ct ws hl)
def tCallKw (sp : Sp) (l : List Nat) (m : Nat) (E : XK) (tk : TA) : TE := fun σ H Q => tk σ H fun zs H2 => zs.length = m ∧ sp (perm l zs) H2 Q E
theorem pe_callKw {X : Cx} {CX : CXT} {k : Nat} {f : Addr} {fd : FuncData} {ps ks : List Str} {l : List Nat} {sp : Sp} {E : XK} {x : Str} {p pos : Pos} {kws : List Keyword} {tk : TA} {m : Nat}
    (F : FnOk X.prog X.w X.K X.mg X.base CX k f fd ps sp) (hr : Room k X.A) (hg : Gl X x) (hm : X.mg x = some (.ref f)) (hk : PySem.W.keepIn X.K (.ref f) = true) (hb : KwB X.K fd ps ks l) (hx : Passes CX X E)
    (hkw : PK X kws tk) (hall : (backToKw pos (keywordEach kws X.env)).all (·.1.isSome) = true := by rfl) (hks : (backToKw pos (keywordEach kws X.env)).filterMap (·.1) = ks := by rfl)
    (hm' : m = ks.length := by rfl) (hdb : (x == ("__debug__" : Str)) = false := by decide)
    (hpl : ((backTo pos (starEach [] X.env)).any (·.1) || (backToKw pos (keywordEach kws X.env)).any (·.1.isNone)) = false := by rfl) :
    PE X (.Call (.Name x p) [] kws pos) (tCallKw sp l m E tk) := by
  subst hm'
  refine ⟨fun pins s σ H Q I h => ?_⟩
  refine wpAny_Call_Name_kw (ld_glob I hg hm ?_ hdb)
  refine PySem.W.callWith_KW0 (h₀ := X.base) I.ok.mod.kin hk hall (thn (hkw.run pos pins s σ H _ I h) fun ws s2 ⟨zs, H2, I2, rz, hl, q2⟩ => ⟨I2.kIn, ?_⟩) hpl
  rw [hks]
  have r2 := perm_rel l rz
  refine wpAny_call (codeAny_mono (F.run X.A X.stack s2 H2 ⟨[], ks.zip ws⟩ (perm l ws) (perm l zs) Q E hr I2.env0 (hb s2 ws I2.kIn (by rw [← rz.length]; exact hl)) r2 q2) fun r s' hq => ?_)
  cases r with
  | error e => exact hx pins σ H2 s2 e s' I2 hq
  | ok fl =>
    cases fl with
    | ret u => exact I2.after hq
    | next => exact False.elim hq
    | brk => exact False.elim hq
    | cont => exact False.elim hq
end B
/-! B: rules that the kit has not: zip of a text and a tuple, sum of a tuple, tuple * 1, d.values() as a value -/
namespace B
open PySem L2 PySem.Spec PyProof.Rows
/-! ### zip(text, tuple) -/
def ItzS (K : Fg) (x : Str) (b : Addr) (n : Nat) : It :=
  ⟨fun i H => i < x.cps.size ∧ i < n ∧ ∃ ys : List V, SqT K H b ys ∧ ys.length = n,
    fun i H v H' => ∃ T c y, v = .ref T ∧ H T = none ∧ H' = upd H T (.tup [.str ⟨#[c]⟩, y]) ∧ x.cps[i]? = some c ∧ ∀ ys, SqT K H b ys → ys[i]? = some y,
    fun i H => (x.cps.size ≤ i ∨ n ≤ i) ∧ ∃ ys : List V, SqT K H b ys ∧ ys.length = n⟩
def ZsTn (x : Str) (t : Tok) (b z TI TO i1 i2 : Addr) (n i : Nat) (h : Heap) : Prop := IsZip h z TI TO .none ∧ IsPair h TI (.ref i1) (.ref i2) ∧ (∃ x y, IsPair h TO x y) ∧ h.IsStrIter i1 (strIterType x) x t i ∧ h.IsTupleIter i2 b i ∧ i ≤ x.cps.size ∧ i ≤ n
theorem ti_ne {h : Heap} {i2 b : Addr} {i : Nat} {its : Array Value} (h2 : h.IsTupleIter i2 b i) (p : IsTup h b its) : b ≠ i2 := fun e => by
  obtain ⟨o, ho, hcls, hdat⟩ := id h2
  obtain ⟨o', ho', hc', _⟩ := p
  rw [e, ho] at ho'
  cases ho'
  rw [hcls] at hc'
  have := Value.type.inj hc'
  revert this
  decide
theorem turn_zipS {P : Program} {w : World} {K : Fg} {elts : List Expr} {kk : Nat} {tpos : Pos} {x : Str} {t : Tok} {b z TI TO i1 i2 : Addr} {n : Nat} (D : ZipSep2 z TI TO i1 i2 [i1] [i2, b]) :
    Turn P w K (.Tuple elts kk tpos) (ItzS K x b n) [z, TI, TO, i1, i2] z (ZsTn x t b z TI TO i1 i2 n) where
  mem := by simp
  obj := fun i h st c hc => by
    obtain ⟨hz, hTI, ⟨x, y, hTO⟩, ⟨o1, e1, _, d1⟩, ⟨o2, e2, _, d2⟩, _, _⟩ := st
    simp only [List.mem_cons, List.not_mem_nil, or_false] at hc
    rcases hc with q | q | q | q | q <;> rw [q]
    · exact ⟨_, hz, fun v q => nomatch q⟩
    · exact ⟨_, hTI, fun v q => nomatch q⟩
    · exact ⟨_, hTO, fun v q => nomatch q⟩
    · exact ⟨o1, e1, fun v q => by rw [d1] at q; cases q⟩
    · exact ⟨o2, e2, fun v q => by rw [d2] at q; cases q⟩
  keep := fun i h h' st k => by
    obtain ⟨hz, hTI, ⟨x, y, hTO⟩, ⟨o1, e1, r1⟩, h2, l1, l2⟩ := st
    exact ⟨k z (by simp) _ hz, k TI (by simp) _ hTI, ⟨x, y, k TO (by simp) _ hTO⟩, ⟨o1, k i1 (by simp) _ e1, r1⟩, h2.at fun o q => k i2 (by simp) o q, l1, l2⟩
  item := by
    intro X hP hw hK hc i pins s σ H E I hf st hg
    subst hP hw hK
    obtain ⟨hz, hTI, ⟨x0, y0, hTO⟩, h1, h2, l1, l2⟩ := st
    obtain ⟨g1, g2, ys, hqy, hn⟩ := hg
    obtain ⟨its, rv, p, _⟩ := I.tuple hqy
    have hl : its.length = n := by rw [← rv.length]; exact hn
    have hd : X.A.in1.handled = none := I.ok.hd hc
    refine wpAny_pyNext_zipD2_item D (Draws.text hd i1 x t) (Draws.tuple hd i2 b (ti_ne h2 p) its.toArray) hz hTI hTO h1 ⟨h2, p⟩ g1 (by simpa [hl] using g2) fun u1 u2 h' tk y1 y2 b1 b2 d1 d2 b5 b6 hk => ?_
    have hzl : z < s.heap.objs.size := Heap.lt_size hz
    obtain ⟨c, tc, hcx, rfl⟩ := y1
    obtain ⟨y, hy, ry⟩ : ∃ y, ys[i]? = some y ∧ RelV y u2 := by
      have e2 : its[i]? = some u2 := by simpa using y2
      have hy : ys[i]? = some (ys[i]'(by omega)) := List.getElem?_eq_getElem (by omega)
      obtain ⟨u, e3, r⟩ := rv.get hy
      rw [e2] at e3
      cases e3
      exact ⟨_, hy, r⟩
    refine ⟨_, rfl, wpAny_letOwnedTupleGo_zip (s := { s with heap := h', toks := tk }) b1 fun h'' z'' sb => ?_⟩
    have hT2 : h''.get? s.heap.objs.size = some { cls := .type "tuple", data := .seq #[.str ⟨#[c]⟩ tc, u2] } := (sb.2 _ (Nat.ne_of_gt hzl)).trans b5
    have new : ObjOk X.prog X.w (upd H s.heap.objs.size (.tup [.str ⟨#[c]⟩, y])) h'' s.heap.objs.size (.tup [.str ⟨#[c]⟩, y]) :=
      ⟨by show 2 ≤ sizeLine; decide, [.str ⟨#[c]⟩ tc, u2], .cons ⟨tc, rfl⟩ (.cons ry .nil), ⟨_, hT2, rfl, _, rfl⟩⟩
    have I1 : Inv X pins σ (upd H s.heap.objs.size (.tup [.str ⟨#[c]⟩, y])) { s with heap := h'', toks := tk } :=
      I.turnedNew (t' := tk) (ch := [z, TI, TO, i1, i2]) (fun c o hb q => (sb.2 c (fun q' => hb (by simp [q']))).trans (hk c o (fun q' => hb (by simp [q'])) (fun q' => hb (by simp [q'])) (fun q' => hb (by simp [q'])) (fun q' => hb (by simp [q'])) q)) hf (Nat.le_refl _) new
    refine ⟨.ref s.heap.objs.size, _, I1, rfl, ⟨_, c, y, rfl, I.hok.fresh (Nat.le_refl _), rfl, hcx, fun l hl => by rw [I.tuple_inj hl hqy]; exact hy⟩, ⟨z'', ?_, ⟨Value.str ⟨#[c]⟩ tc, u2, ?_⟩, ?_, ?_, by omega, by omega⟩, fun c hcm => ?_⟩
    · exact (sb.2 _ D.TIz).trans (hk _ _ D.TIz D.TITO D.TIi1 D.TIi2 hTI)
    · exact (sb.2 _ D.TOz).trans b2
    · obtain ⟨o, ho, r⟩ := d1
      exact ⟨o, (sb.2 _ D.zi1.symm).trans ho, r⟩
    · exact d2.1.at fun o q => (sb.2 _ D.zi2.symm).trans q
    · have hlt : c < s.heap.objs.size := by
        simp only [List.mem_cons, List.not_mem_nil, or_false] at hcm
        rcases hcm with q | q | q | q | q <;> rw [q]
        · exact hzl
        · exact Heap.lt_size hTI
        · exact Heap.lt_size hTO
        · obtain ⟨_, e1, _⟩ := h1; exact Heap.lt_size e1
        · obtain ⟨_, e2, _⟩ := h2; exact Heap.lt_size e2
      rw [upd_ne (Nat.ne_of_lt hlt)]
      exact (hf c hcm).1
  done := by
    intro X hP hw hK hc i pins s σ H E I hf st hg
    subst hP hw hK
    obtain ⟨hz, hTI, ⟨x0, y0, hTO⟩, h1, h2, l1, l2⟩ := st
    obtain ⟨hend, ys, hqy, hn⟩ := hg
    obtain ⟨its, rv, p, _⟩ := I.tuple hqy
    have hl : its.length = n := by rw [← rv.length]; exact hn
    have hd : X.A.in1.handled = none := I.ok.hd hc
    have hne : b ≠ i2 := ti_ne h2 p
    have hs : its.toArray.size = n := by simpa using hl
    exact wpAny_pyNext_zipD2_end D (Draws.text hd i1 x t) (Draws.tuple hd i2 b hne its.toArray) hz hTI hTO h1 ⟨h2, p⟩ l1 (by omega) (by omega) fun h' tk hk => ⟨rfl, I.turnedL (t' := tk) (ch := [z, TI, TO, i1, i2]) (fun c o hb q =>
      hk c o (fun q' => hb (by simp [q'])) (fun q' => hb (by simp [q'])) (fun q' => hb (by simp [q'])) (fun q' => hb (by simp [q'])) q) hf⟩
  self := fun A i s Q E st h => wpAny_pyIter_zip st.1 h
theorem zsep {n b : Nat} (h : b < n) : ZipSep2 (n + 4) (n + 2) (n + 3) n (n + 1) [n] [n + 1, b] where
  TIz := Nat.ne_of_lt (by omega)
  TOz := Nat.ne_of_lt (by omega)
  TITO := Nat.ne_of_lt (by omega)
  TIi1 := Nat.ne_of_gt (by omega)
  mem1 := List.mem_cons_self
  zf1 := fun q => absurd (List.mem_singleton.mp q) (Nat.ne_of_gt (by omega))
  Tf1 := fun q => absurd (List.mem_singleton.mp q) (Nat.ne_of_gt (by omega))
  TIi2 := Nat.ne_of_gt (by omega)
  mem2 := List.mem_cons_self
  zf2 := fun q => by rcases List.mem_cons.mp q with e | q; exact absurd e (Nat.ne_of_gt (by omega)); exact absurd (List.mem_singleton.mp q) (Nat.ne_of_gt (by omega))
  Tf2 := fun q => by rcases List.mem_cons.mp q with e | q; exact absurd e (Nat.ne_of_gt (by omega)); exact absurd (List.mem_singleton.mp q) (Nat.ne_of_gt (by omega))
  sep1_2 := fun q => by rcases List.mem_cons.mp q with e | q; exact absurd e (Nat.ne_of_lt (by omega)); exact absurd (List.mem_singleton.mp q) (Nat.ne_of_gt (by omega))
  sep2_1 := fun q => absurd (List.mem_singleton.mp q) (Nat.ne_of_gt (by omega))
def iZipS (K : Fg) (ta : TA) : TI := fun σ H R => ta σ H fun vs H1 => ∃ x b ys, vs = [.str x, .ref b] ∧ SqT K H1 b ys ∧ R (ItzS K x b ys.length) H1
theorem pi_zipS {X : Cx} {e e2 : Expr} {ta : TA} {p pos tpos : Pos} {elts : List Expr} {kk : Nat} (hg : Gl X "zip") (hm : X.mg "zip" = none) (ha : PA X [e, e2] ta)
    (hs : starEach [e, e2] X.env = (false, eval e X.env) :: starEach [e2] X.env := by rfl) (hpl : (backTo pos (starEach [e2] X.env)).any (·.1) = false := by rfl) :
    PI X (.Tuple elts kk tpos) (.Call (.Name "zip" p) [e, e2] [] pos) (iZipS X.K ta) := by
  refine ⟨fun pins s σ H R I h => ?_⟩
  refine Call_ (ld_blt I hg hm PyProof.Rows.boot_zip (PyProof.Rows.callWith_type1 (thn (ha.run pos pins s σ H _ I h) fun us s1 ⟨vs, H1, I1, r1, q1⟩ => ?_) hs hpl))
  obtain ⟨x, b, ys, ex, hqy, q⟩ := q1
  subst ex
  cases r1 with
  | cons r rr =>
    cases rr with
    | cons r' rr =>
      cases rr
      obtain ⟨t, rfl⟩ := r
      cases r'
      obtain ⟨its, rv, p, _⟩ := I1.tuple hqy
      have lb : b < s1.heap.objs.size := by obtain ⟨o, ho, _⟩ := id p; exact Heap.lt_size ho
      refine zip_begins2 (begins_text x t) (begins_tuple b its.toArray) trivial p fun h' hz hTI hTO g1 g2 hsz hk => wpAny_pyIter_zip hz ?_
      have I2 : Inv X pins σ H1 { s1 with heap := h' } := I1.kept (t' := s1.toks) hk
      have fresh5 : ∀ c, c ∈ [s1.heap.objs.size + 4, s1.heap.objs.size + 2, s1.heap.objs.size + 3, s1.heap.objs.size, s1.heap.objs.size + 1] → FpOk X pins H1 c := fun c hcm => by
        have hle : s1.heap.objs.size ≤ c := by
          simp only [List.mem_cons, List.not_mem_nil, or_false] at hcm
          omega
        exact I1.fpOk hle (I1.hok.fresh hle)
      exact ⟨s1.heap.objs.size + 4, [s1.heap.objs.size + 4, s1.heap.objs.size + 2, s1.heap.objs.size + 3, s1.heap.objs.size, s1.heap.objs.size + 1], _, _, H1, rfl, I2, turn_zipS (t := t) (i1 := s1.heap.objs.size) (i2 := s1.heap.objs.size + 1) (TI := s1.heap.objs.size + 2) (TO := s1.heap.objs.size + 3) (zsep lb), ⟨hz, hTI, ⟨_, _, hTO⟩, ⟨_, g1, rfl, rfl⟩, ⟨_, g2, rfl, rfl⟩, Nat.zero_le _, Nat.zero_le _⟩, fresh5, q⟩

/-! ### d.values() as a value -/
def viewHO (v a : Addr) : HO := .ext fun h => h.get? v = some { cls := .type "dict_values", data := .fields #[.ref a] }
def tVals (td : TE) : TE := fun σ H Q => td σ H fun x H1 => ∃ a kvs, x = V.ref a ∧ H1 a = some (.dK kvs) ∧ ∀ v, H1 v = none → Q (.ref v) (upd H1 v (viewHO v a))
section
variable {X : Cx} {o : Expr} {apos mpos : Pos} {td : TE}
theorem pe_vals (hd : PE X o td) (hbase : attributeBase o "values" X.env (eval o X.env) = eval o X.env := by rfl) (hline : (apos.endLine == mpos.line) = true := by rfl) : PE X (.Call (.Attribute o "values" apos) [] [] mpos) (tVals td) := by
  refine ⟨fun pins s σ H Q I h => ?_⟩
  refine wpAny_Call_method0_late hbase hline (thn (hd.run pins s σ H _ I h) fun v s1 ⟨x, H1, I1, r1, a, kvs, ex, ha, q⟩ => ?_)
  subst ex
  obtain rfl : v = Value.ref a := r1
  obtain ⟨_, hsys, vs, rel, dof⟩ := dk_of I1.hok ha
  obtain ⟨ep, dat⟩ := dof.dictAt
  obtain ⟨ob, es, ho, ex, hdat, hko, hpr, hnd⟩ := dat
  refine ⟨"dict", "dict.values", F.plainAttrs_dict, F.slot_dict_values, F.type_dict_values, ⟨ob, ho, ex.1⟩, fun b e => ?_, Calls.callWith_builtin rfl (PySem.evalArgs_none ?_)⟩
  · cases e
    exact ⟨ob, ho, ex.2.1⟩
  refine call_meetsIn F.slot_dict_values ⟨ob, ho, ex.1⟩ F.entry_dict_values (F.args_dict_values_1 _) (meets_dict_values (mixKind X.prog X.w) a hsys) ⟨⟨vs, dof⟩, ?_⟩
  have k1 : ∀ b u, s1.heap.get? b = some u → (s1.heap.push { cls := .type "dict_values", data := .fields #[.ref a] }).get? b = some u := fun b u e => Heap.get?_push_of_some _ e
  have new : ObjOk X.prog X.w (upd H1 s1.heap.objs.size (viewHO s1.heap.objs.size a)) (s1.heap.push { cls := .type "dict_values", data := .fields #[.ref a] }) s1.heap.objs.size (viewHO s1.heap.objs.size a) :=
    ⟨Heap.get?_push_size _ rfl, ⟨_, Heap.get?_push_size _ rfl⟩, fun h1 h2 e k => k _ e⟩
  exact ⟨.ref _, _, I1.laid (t' := s1.toks) k1 (Nat.le_refl _) new, rfl, q _ (I1.hok.fresh (Nat.le_refl _))⟩
/-- the ints of a dict's values, by the view -/
theorem view_at {pins : List (Addr × Obj)} {s : Shared} {σ : L2.St} {H : Hp} (I : L2.Inv X pins σ H s) {v a : Addr} {kvs : List (Key × V)} {is : List Int} (hv : H v = some (viewHO v a)) (ha : H a = some (.dK kvs)) (hi : kvs.map (·.2) = is.map V.int) :
    ∃ vs ep, s.heap.get? v = some { cls := .type "dict_values", data := .fields #[.ref a] } ∧ s.heap.DictAt (mixKind X.prog X.w) a vs ep ∧ vs.length = is.length ∧ kvs.length ≤ sizeLine ∧ ∀ (i : Nat) (u : Value), (∃ k, vs[i]? = some (k, u)) → ∃ x t, is[i]? = some x ∧ u = Value.int x t := by
  obtain ⟨e, _, _⟩ := I.hok v _ hv
  obtain ⟨z, hsys, vs, rel, dof⟩ := dk_of I.hok ha
  obtain ⟨ep, dat⟩ := dof.dictAt
  refine ⟨vs, ep, e, dat, ?_, z, fun i u ⟨k, hk⟩ => ?_⟩
  · have e1 := congrArg List.length hi
    rw [List.length_map, List.length_map] at e1
    rw [← e1]
    exact (KV.length rel).symm
  · obtain ⟨x, h1, h2⟩ := KV.at' rel hk
    have e1 : (kvs.map (·.2))[i]? = some x := by rw [List.getElem?_map, h1] <;> rfl
    rw [hi, List.getElem?_map] at e1
    obtain ⟨j, hj, e2⟩ := Option.map_eq_some_iff.mp e1
    subst e2
    obtain ⟨t, e3⟩ := h2
    exact ⟨j, t, hj, e3⟩
/-- sum(d.values()) -/
def rSumV : List V → Hp → VK → Prop := fun vs H Q => ∃ (v a : Addr) (kvs : List (Key × V)) (is : List Int), vs = [V.ref v] ∧ H v = some (viewHO v a) ∧ H a = some (.dK kvs) ∧ kvs.map (·.2) = is.map V.int ∧ Q (.int is.sum) H
theorem preSum_getD (is : List Int) : ∀ n, n ≤ is.length → preSum (fun i => is.getD i 0) n = (is.take n).sum
  | 0, _ => by simp [preSum]
  | n + 1, h => by
    show preSum _ n + is.getD n 0 = _
    rw [preSum_getD is n (by omega), List.take_add_one, List.getElem?_eq_getElem (by omega), List.sum_append]
    simp [List.getD_eq_getElem?_getD, List.getElem?_eq_getElem (show n < is.length by omega)]
theorem cr_sumV (hc : X.calm = true) : CallR X (.builtin "sum") rSumV := by
  intro pins s σ H xs us Q I r h
  obtain ⟨v, a, kvs, is, rfl, hv, ha, hi, q⟩ := h
  obtain rfl := Vals.ref1 r
  obtain ⟨vs, ep, e, dat, hl, _, hval⟩ := view_at I hv ha hi
  refine call_sum_walkAnyS ?_
  obtain ⟨oI, St, hit, W, st⟩ := (PySem.W.kdl_values (prog := X.prog) (w := X.w) (knd := mixKind X.prog X.w) (d := a) (r := v) (kvs := vs) (ep := ep)).iter X.A.in1 s (I.ok.hd hc) ⟨⟨_, e, rfl, rfl⟩, dat⟩
  refine hit _ _ ⟨s.heap.objs.size, _, _, _, vs.length, _, _, fun i => is.getD i 0, rfl, W.toS, st, fun b hb => ?_, fun i u hu => ?_, fun s' t' hm => ?_⟩
  · show b < (s.heap.push oI).objs.size
    rw [Heap.size_push]
    rcases List.mem_cons.mp hb with e' | hb
    · rw [e']; exact Nat.lt_succ_self _
    · rw [List.mem_singleton.mp hb]; exact Nat.lt_succ_of_lt (by obtain ⟨ob, es, ho, _⟩ := id dat; exact Heap.lt_size ho)
  · obtain ⟨x, t, h1, h2⟩ := hval i u hu
    exact ⟨t, by rw [h2]; show Value.int x t = Value.int (is.getD i 0) t; rw [List.getD_eq_getElem?_getD, h1]; rfl⟩
  · have hk : ∀ b o, s.heap.get? b = some o → s'.heap.get? b = some o := fun b o e =>
      hm.heap b o (fun hI => absurd (Heap.lt_size e) (by rw [List.mem_singleton.mp hI]; exact Nat.lt_irrefl _)) (Heap.get?_push_of_some _ e)
    rw [Moved.eq_with hm]
    refine ⟨.int is.sum, H, I.kept hk, ⟨t', ?_⟩, q⟩
    rw [hl, preSum_getD is _ (Nat.le_refl _), List.take_length]
end

/-! ### sorted(d.values(), reverse=True) -/
section
variable {X : Cx}
def rSortedVR : List V → List V → Hp → VK → Prop := fun vs zs H Q => ∃ (v a : Addr) (kvs : List (Key × V)) (is : List Int), vs = [V.ref v] ∧ zs = [.bl true] ∧ H v = some (viewHO v a) ∧ H a = some (.dK kvs) ∧ kvs.map (·.2) = is.map V.int ∧
  ∀ (ns' : List Int) (p : Addr), ns'.Perm is → OrdB true ns' → H p = none → Q (.ref p) (upd H p (.lst (ns'.map V.int)))
theorem cr_sortedVR (hc : X.calm = true) : CallRK X (.builtin "sorted") [Str.ofString "reverse"] rSortedVR := by
  intro pins s σ H xs zs us ws Q I r rz h
  obtain ⟨v, a, kvs, is, rfl, rfl, hv, ha, hi, q⟩ := h
  obtain rfl := Vals.ref1 r
  obtain ⟨w1, rfl, e1⟩ := vals1 rz
  obtain rfl : w1 = Value.bool true := e1
  obtain ⟨vs, ep, e, dat, hl, hz, hval⟩ := view_at I hv ha hi
  have hz2 : vs.length ≤ sizeLine := by
    rw [hl]
    have := congrArg List.length hi
    rw [List.length_map, List.length_map] at this
    rw [← this]; exact hz
  refine call_function_entry_kw kind_sorted plain_sorted entry_sorted (PyProof.Rows.args_sorted_rev _ _) ?_
  unfold Builtin.«sorted»
  refine wpAny_bind (m := checkCount "sorted" 1 1 _) (wpAny_pure ?_)
  refine wpAny_bind (PySem.W.kdu_collect (A := X.A.in1) (PySem.W.kdl_values (prog := X.prog) (w := X.w) (knd := mixKind X.prog X.w) (d := a) (r := v) (kvs := vs) (ep := ep)) (I.ok.hd hc) ⟨⟨_, e, rfl, rfl⟩, dat⟩ hz2 fun h' tk acc hk hacc => ?_)
  have hal : acc.toList.length = is.length := by rw [Array.length_toList, hacc.1, hl]
  have hS : IntsAre acc.toList is := ints_each hal fun j u e => hval j u (hacc.2 j u (by rw [← Array.getElem?_toList]; exact e))
  have I1 : Inv X pins σ H { s with heap := h', toks := tk } := I.kept hk
  refine wpAny_bind (wpAny_newList ?_ (by rw [hal, ← hl]; exact hz2))
  have hoL : (h'.push (seqObj "list" acc.toList.toArray 0)).get? h'.objs.size = some (seqObj "list" acc.toList.toArray 0) := Heap.get?_push_size _ rfl
  show wpAny _ _ _ _ _ { s with heap := h'.push (seqObj "list" acc.toList.toArray 0), toks := tk }
  refine wpAny_bind (wpAny_holding (wpAny_call_entry_kw slot_list_sort ⟨_, hoL, rfl⟩ entry_list_sort ?_ (PyProof.Rows.args_list_sort_rev _ _)))
  refine SrtR.list_sort_ordR (b := true) SrtO.swo_int hoL (by rw [hal, ← hl]; exact hz2) (fun h2 => SrtO.ints_sortable hS h2) fun out h1 h2 => ⟨_, rfl, ?_⟩
  obtain ⟨ns', k1, k2, k3⟩ := SrtR.ints_outR (b := true) hS h1 h2
  obtain ⟨e', he'⟩ := PyProof.Rows.sortedHeap_at (vs := acc.toList) (out := out.toArray.reverse) hoL
  have hlen : (ns'.map V.int).length ≤ sizeLine := by
    rw [List.length_map, k2.length_eq, ← hl]
    exact hz2
  refine wpAny_pure ⟨_, rfl, .ref h'.objs.size, upd H h'.objs.size (.lst (ns'.map V.int)), I1.laid (t' := tk) (fun b u e => ?_) (Nat.le_refl _)
    (show ObjOk X.prog X.w _ _ _ (.lst (ns'.map V.int)) from ⟨hlen, out.toArray.reverse.toList, e', vals_of_ints k1, by rw [Array.toArray_toList]; exact he'⟩), rfl, q ns' _ k2 k3 (I1.hok.fresh (Nat.le_refl _))⟩
  have hb : b < h'.objs.size := Heap.lt_size e
  show (sortedHeap _ _ _ out.toArray.reverse).get? b = _
  rw [PyProof.Rows.sortedHeap_old (Nat.ne_of_lt hb) (by rw [size_push']; exact Nat.lt_succ_of_lt hb)]
  exact Heap.get?_push_of_some _ e
/-! ### sum(tuple) -/
def rSumT (K : Fg) : List V → Hp → VK → Prop := fun vs H Q => ∃ (a : Addr) (ns : List Int), vs = [V.ref a] ∧ SqT K H a (ns.map V.int) ∧ Q (.int ns.sum) H
theorem cr_sumT (hc : X.calm = true) : CallR X (.builtin "sum") (rSumT X.K) := by
  intro pins s σ H xs us Q I r h
  obtain ⟨a, ns, rfl, hs, q⟩ := h
  obtain ⟨its, rv, hl, _⟩ := I.tuple hs
  obtain rfl := Vals.ref1 r
  have hi := rv.ints
  obtain ⟨xs, hx⟩ := hi.allInts.items
  have hn : numsOf its.toArray.toList = ns := by rw [show its.toArray.toList = its from rfl, hi.numsOf]
  have hl' : s.heap.IsTuple a its.toArray := hl
  rw [hx] at hl' hn
  rw [nums_intItems] at hn
  refine PySem.W.ktm_sumG (I.ok.hd hc) hl' fun h' tk t' hk => ⟨.int ns.sum, H, I.kept hk, ⟨t', ?_⟩, q⟩
  rw [preSum_eq, List.take_of_length_le (by simp), hn]
/-! ### tuple * k, k from 1 on -/
theorem tuple_mul1 (l : Addr) (items : Array Value) (n : Nat) (dd : Option Addr) (sl : Array (Option Value)) (u : Tok) :
    Meets (Builtin.«tuple.__mul__» ⟨[.ref l, .int 1 u], []⟩) (fun _ R s => s.heap.get? l = some { cls := .type "tuple", dict := dd, data := .seq items n, slots := sl } ∧ R (.ok (.ret (Value.ref l))) s) :=
  .of_wp fun prog w A R s h => by
    obtain ⟨hp, g, d, tk, os⟩ := s
    obtain ⟨hl, h⟩ := h
    have f1 := AutoSeq1.idx_int
    have hT : (⟨hp, g, d, tk, os⟩ : Shared).TypeIs (.ref l) "tuple" := ⟨_, hl, rfl⟩
    wp_walk using wpAny_loadPart' hl
    exact ⟨_, rfl, h⟩
def rRepT1 (K : Fg) : R2 := fun x y H Q => ∃ l k xs, x = .ref l ∧ y = .int k ∧ SqT K H l xs ∧ xs ≠ [] ∧ 1 ≤ k ∧ k ≤ 1000 ∧ xs.length ≤ 1000 ∧ (k = 1 → Q (.ref l) H) ∧ (2 ≤ k → ∀ p, H p = none → Q (.ref p) (upd H p (.tup (List.replicate k.toNat xs).flatten)))
theorem op_repT1 : OpR X (binaryOp .Mult) (rRepT1 X.K) := by
  intro pins s σ H x y v u Q I rx ry h
  obtain ⟨l, k, xs, rfl, rfl, hT, hne, h1, h2, hz, q1, q2⟩ := h
  by_cases hk : k = 1
  · cases rx
    obtain ⟨t, rfl⟩ := ry
    subst hk
    obtain ⟨its, r, ⟨⟨cls, dd, data, sl⟩, ho, hc, n, hd⟩, hs⟩ := I.tuple hT
    simp only at hc hd
    subst hc hd
    exact wpAny_binaryOp_repeat_ref (T := "tuple") (U := "int") (by decide) ⟨_, ho, rfl⟩ (fun s' => typeIs_int s' 1 t) noFill_tuple_mul F.fills_int_mul F.slot_int_rmul repeat_tuple F.slot_int_index.lookup
      (call_meets F.slot_int_rmul (typeIs_int s 1 t) F.entry_int_rmul (F.args_int_rmul_2 _ _) (int_rmul_tuple 1 t l its.toArray n dd sl)
        ⟨ho, rfl, ⟨_, ho, rfl⟩, call_meets F.slot_tuple_mul ⟨_, ho, rfl⟩ F.entry_tuple_mul (F.args_tuple_mul_2 _ _) (tuple_mul1 l its.toArray n dd sl t) ⟨ho, .ref l, H, I, rfl, q1 rfl⟩⟩)
  · exact op_repT pins s σ H _ _ v u Q I rx ry ⟨l, k, xs, rfl, rfl, hT, hne, by omega, h2, hz, q2 (by omega)⟩
end
end B
/-! B: the layer over the rules of Bt; dicts that change -/
namespace B
open PySem L2
open PySem.W (Tup T3 T4 Datum DatumOrd)
open Evl (Ex)
section
variable {α β γ : Type} [Py α] [Py β] [Py γ] {K : Fg} {σ : SS} {W W' : Wd} {v : V} {te ta tb : TE} {ε : Ef}
theorem ro_cat {xs ys : List α} (hl : xs.length + ys.length ≤ 100000) : RO K rCat xs ys (xs ++ ys) := fun v u W1 ⟨a, vs, e, s, r⟩ ⟨b, us, e', s', r'⟩ Q k =>
  ⟨a, b, vs, us, e, e', W1.sub.el s, W1.sub.el s', Evl.sz_of (by rw [Reps.len r, Reps.len r']; exact hl), fun p hp =>
    k _ (W1.add p _) (W1.grow_add hp) ⟨p, _, rfl, upd_same, Reps.app (Reps.mono (exExt (W1.grow_add hp).b) r) (Reps.mono (exExt (W1.grow_add hp).b) r')⟩⟩
theorem reps_nil {H : Hp} {vs : List V} {xs : List α} (r : Reps K H vs xs) (h : vs = []) : xs = [] := by
  cases r with
  | nil => rfl
  | cons a b => cases h
theorem ro_catT {xs ys : Tup α} (hl : xs.items.length + ys.items.length ≤ 100000) : RO K (rCatA K) xs ys (Tup.mk (xs.items ++ ys.items)) := fun v u W1 ⟨a, vs, e, s, r⟩ ⟨b, us, e', s', r'⟩ Q k =>
  ⟨a, b, vs, us, e, e', SqT.of (W1.sub.et s), SqT.of (W1.sub.et s'), Evl.sz_of (by rw [Reps.len r, Reps.len r']; exact hl),
    fun h0 => k _ W1 (.refl _ _) ⟨b, us, rfl, s', by rw [reps_nil r h0]; exact r'⟩,
    fun _ h0 => k _ W1 (.refl _ _) ⟨a, vs, rfl, s, by rw [reps_nil r' h0, List.append_nil]; exact r⟩,
    fun _ _ p hp => k _ (W1.add p _) (W1.grow_add hp) ⟨p, _, rfl, upd_same, Reps.app (Reps.mono (exExt (W1.grow_add hp).b) r) (Reps.mono (exExt (W1.grow_add hp).b) r')⟩⟩
theorem rc_sumT {xs : Tup Int} : RC1 K (rSumT K) xs xs.items.sum := fun v W1 ⟨a, vs, e, s, r⟩ Q k => ⟨a, xs.items, by rw [e], by rw [← reps_int r]; exact SqT.of (W1.sub.et s), k _ W1 (.refl _ _) rfl⟩
theorem reps_rep {H : Hp} {vs : List V} {xs : List α} (r : Reps K H vs xs) : ∀ n : Nat, Reps K H (List.replicate n vs).flatten (List.replicate n xs).flatten
  | 0 => .nil
  | n + 1 => by
    rw [List.replicate_succ, List.replicate_succ, List.flatten_cons, List.flatten_cons]
    exact Reps.app r (reps_rep r n)
theorem ro_repT {xs : Tup α} {n : Int} (hne : xs.items ≠ []) (h1 : 1 ≤ n) (h2 : n ≤ 1000) (hl : xs.items.length ≤ 1000) : RO K (rRepT1 K) xs n (Tup.mk (List.replicate n.toNat xs.items).flatten) := fun v u W1 ⟨a, vs, e, s, r⟩ ru Q k =>
  ⟨a, n, vs, e, ru, SqT.of (W1.sub.et s), fun z => hne (reps_nil r z), h1, h2, by rw [Reps.len r]; exact hl, fun h => k _ W1 (.refl _ _) ⟨a, vs, rfl, s, by
      subst h
      simpa using r⟩, fun _ p hp => k _ (W1.add p _) (W1.grow_add hp) ⟨p, _, rfl, upd_same, Reps.mono (exExt (W1.grow_add hp).b) (reps_rep r _)⟩⟩
theorem rc_tupL {xs : List α} : RC1 K (rTupleO K) xs (Tup.mk xs) := fun v W1 ⟨a, vs, e, s, r⟩ Q k => ⟨a, vs, by rw [e], .inl ⟨SqL.of (W1.sub.el s), fun l hl =>
  k _ (W1.add l (.tup vs)) (W1.grow_add hl) ⟨l, vs, rfl, upd_same, Reps.mono (exExt (W1.grow_add hl).b) r⟩⟩⟩
/-- zip of two tuples -/
theorem ei_zipT {xs : Tup α} {ys : Tup β} (ha : EvR ε K ta σ W xs) (hb : EvR ε K tb σ W ys) : EvJ ε K (RZ.iZipA K (tCons ta (tCons tb tNil))) σ W (xs.items.zip ys.items) := fun W1 g1 R k => ha W1 g1 _ fun v W2 g2 r1 => hb W2 (g1.trans g2) _ fun u W3 g3 r2 => by
  obtain ⟨a, vs, e, s, r⟩ := rep_s g3 r1
  obtain ⟨b, us, e', s', r'⟩ := r2
  refine ⟨a, b, vs, us, by rw [e, e'], .inr ⟨SqT.of (W3.sub.et s), SqT.of (W3.sub.et s'), k (RZ.ItzT K a b) W3 (g2.trans g3) ⟨fun i W' o hi => ?_, fun i W' v H'' o hi ⟨T, x, y, e1, hT, e2, e3, e4⟩ => ?_, fun i W' o hi => ?_⟩⟩⟩
  · have hi' : i < xs.items.length ∧ i < ys.items.length := by simp at hi; omega
    obtain ⟨x, hx⟩ : ∃ x, xs.items[i]? = some x := ⟨xs.items[i], by simp [hi'.1]⟩
    obtain ⟨y, hy⟩ : ∃ x, ys.items[i]? = some x := ⟨ys.items[i], by simp [hi'.2]⟩
    obtain ⟨v, h1, _⟩ := Reps.get' r hx
    obtain ⟨u, h2, _⟩ := Reps.get' r' hy
    exact ⟨vs, us, v, u, SqT.of (W'.sub.et (o.b _ _ s)), SqT.of (W'.sub.et (o.b _ _ s')), h1, h2⟩
  · obtain ⟨p, h1, h2⟩ := Reps.get r (e3 vs (SqT.of (W'.sub.et (o.b _ _ s))))
    obtain ⟨q, h3, h4⟩ := Reps.get r' (e4 us (SqT.of (W'.sub.et (o.b _ _ s'))))
    refine ⟨(p, q), W'.add T _, e2.symm, W'.grow_add hT, ?_, T, x, y, e1, upd_same, rep_g (W'.grow_add hT) (rex o.b h2), rep_g (W'.grow_add hT) (rex o.b h4)⟩
    rw [List.getElem?_zip_eq_some]
    exact ⟨h1, h3⟩
  · refine ⟨vs, us, SqT.of (W'.sub.et (o.b _ _ s)), SqT.of (W'.sub.et (o.b _ _ s')), ?_⟩
    rw [Reps.len r, Reps.len r']
    simp at hi
    omega
def signs (x : Str) : List Str := x.cps.toList.map fun c => ⟨#[c]⟩
/-- zip of a text and a tuple -/
theorem ei_zipS {x : Str} {ys : Tup β} (ha : EvR ε K ta σ W x) (hb : EvR ε K tb σ W ys) : EvJ ε K (iZipS K (tCons ta (tCons tb tNil))) σ W ((signs x).zip ys.items) := fun W1 g1 R k => ha W1 g1 _ fun v W2 g2 r1 => hb W2 (g1.trans g2) _ fun u W3 g3 r2 => by
  have e : v = .str x := r1
  obtain ⟨b, us, e', s', r'⟩ := r2
  have hl := Reps.len r'
  have hs : (signs x).length = x.cps.size := by simp [signs]
  refine ⟨x, b, us, by rw [e, e'], SqT.of (W3.sub.et s'), k (ItzS K x b us.length) W3 (g2.trans g3) ⟨fun i W' o hi => ?_, fun i W' v H'' o hi ⟨T, c, y, e1, hT, e2, e3, e4⟩ => ?_, fun i W' o hi => ?_⟩⟩
  · rw [List.length_zip, hs] at hi
    exact ⟨by omega, by omega, us, SqT.of (W'.sub.et (o.b _ _ s')), rfl⟩
  · obtain ⟨q, h3, h4⟩ := Reps.get r' (e4 us (SqT.of (W'.sub.et (o.b _ _ s'))))
    refine ⟨(⟨#[c]⟩, q), W'.add T _, e2.symm, W'.grow_add hT, ?_, T, _, y, e1, upd_same, rfl, rep_g (W'.grow_add hT) (rex o.b h4)⟩
    rw [List.getElem?_zip_eq_some]
    refine ⟨?_, h3⟩
    unfold signs
    rw [List.getElem?_map, Array.getElem?_toList, e3]
    rfl
  · rw [List.length_zip, hs] at hi
    exact ⟨by omega, us, SqT.of (W'.sub.et (o.b _ _ s')), rfl⟩
theorem kreps_ints {κ : Type} [PyKey κ] {H : Hp} {ks : List (Key × V)} {kv : List (κ × Int)} (r : KReps K H ks kv) : ks.map (·.2) = (kv.map (·.2)).map V.int := by
  induction r with
  | nil => rfl
  | cons a b ih => rw [List.map_cons, List.map_cons, List.map_cons, ih, show _ = _ from a.2]
/-- sorted(d.values(), reverse=True): what falls with the same items -/
theorem ev_sortedVR {κ : Type} [PyKey κ] {d : Dict κ Int} {ys : List Int} (h : EvD ε K te σ W d) (hp : ys.Perm (d.kv.map (·.2))) (ho : ys.Pairwise (· ≥ ·)) : EvR ε K (tCKw rSortedVR (tCons (tVals te) tNil) (tCons (tC (.bl true)) tNil)) σ W ys := fun W1 g1 Q k => h W1 g1 _ fun v W2 g2 ⟨a, ks, e, hB, hH, r⟩ =>
  ⟨a, ks, e, hH, fun w hw => by
    have ne : a ≠ w := fun z => by rw [z, hw] at hH; cases hH
    have gw := W2.grow_put (o := viewHO w a) hw
    refine ⟨w, a, ks, d.kv.map (·.2), rfl, rfl, upd_same, (upd_ne ne).trans hH, kreps_ints r, fun ns' p h1 h2 hp0 => ?_⟩
    have e2 : ns' = ys := (h1.trans hp.symm).eq_of_pairwise (fun a b _ _ h h' => Int.le_antisymm h' h) (show ns'.Pairwise (· ≥ ·) from h2) ho
    subst e2
    exact k _ ((W2.put w _ (W2.free hw)).add p _) ((g2.and gw).and (Wd.grow_add _ hp0)) ⟨p, _, rfl, upd_same, int_reps _⟩⟩
theorem ev_sumV {κ : Type} [PyKey κ] {d : Dict κ Int} (h : EvD ε K te σ W d) : EvR ε K (tCB rSumV (tCons (tVals te) tNil)) σ W (d.kv.map (·.2)).sum := fun W1 g1 Q k => h W1 g1 _ fun v W2 g2 ⟨a, ks, e, hB, hH, r⟩ =>
  ⟨a, ks, e, hH, fun w hw => by
    have ne : a ≠ w := fun z => by rw [z, hw] at hH; cases hH
    exact ⟨w, a, ks, d.kv.map (·.2), rfl, upd_same, (upd_ne ne).trans hH, kreps_ints r, k _ (W2.put w _ (W2.free hw)) (g2.and (W2.grow_put hw)) rfl⟩⟩
end
/-- what is new may change unseen -/
theorem Md.fresh {S : List Addr} {W W1 W2 : Wd} {d : Addr} (a : Md S W W1) (b : Md (d :: S) W1 W2) (f : W.H d = none) : Md S W W2 := ⟨a.b.trans b.b, fun x o h1 h2 => b.l x o (a.b x o h1) (a.l x o h1 h2), fun x o h1 h2 => b.o x o (fun z => by
    rcases List.mem_cons.mp z with e | z
    · rw [e, f] at h2; cases h2
    · exact h1 z) (a.o x o h1 h2), fun x hx => by rw [b.m x (a.n x hx), a.m x hx], fun x hx => b.d x (a.d x hx), fun x hx => b.n x (a.n x hx)⟩
/-! ### dicts that change -/
structure DMut {κ α : Type} [PyKey κ] [Py α] (K : Fg) (W : Wd) (d : Addr) (kv : List (κ × α)) : Prop where
  b : W.B d = none
  ex : ∃ ks, W.H d = some (.dK ks) ∧ KReps K W.B ks kv
section
variable {κ α : Type} [DecidableEq κ] [PyKey κ] [Py α] {K : Fg} {W W' : Wd} {d : Addr} {kv : List (κ × α)} {ε : Ef} {σ : SS} {S : List Addr} {ty tv tx te : TE}
theorem DMut.nt (m : DMut K W d kv) : Nt W.H d := by
  obtain ⟨ks, e, _⟩ := m.ex
  exact .k e
theorem DMut.g (m : DMut K W d kv) (g : Md S W W') (h : d ∉ S) : DMut K W' d kv := by
  obtain ⟨ks, e, r⟩ := m.ex
  have := g.mut h e m.b
  exact ⟨this.2, ks, this.1, KReps.mono (exExt g.b) r⟩
theorem DMut.gr (m : DMut K W d kv) (g : Grow W W') : DMut K W' d kv := m.g g (by simp)
theorem DMut.s (m : DMut K W d kv) (g : Stp ε W W') (h : d ∉ ε.S) : DMut K W' d kv := m.g g.md h
theorem DMut.new (W : Wd) {d : Addr} (h : W.H d = none) : DMut K (W.put d (.dK []) (W.free h)) d ([] : List (κ × α)) := ⟨W.free h, [], upd_same, .nil⟩
/-- d[k] = v -/
theorem s_dput {D : Ends} {i : Nat} {k : κ} {x : α} (hd : σ[i]? = some (some (.ref d))) (m : DMut K W d kv) (hv : EvR pur K tv σ W x) (hk : EvP pur ty σ W (fun u _ => u = kV (PyKey.key k))) (hl : kv.length < 100000)
    (q : ∀ W', Md [d] W W' → On W W' → DMut K W' d (kput kv k x) → D.nx σ W'.H) : sDPut (tVar i) ty tv D σ W.H := hv W (.start trivial) _ fun v W1 g1 rv => ⟨.ref d, hd, hk W1 g1 _ fun u W2 g2 e => by
  have g := (g1.trans g2).pure
  obtain ⟨ks, e1, r⟩ := (m.gr g).ex
  have b := (m.gr g).b
  refine ⟨d, _, rfl, .inl ⟨ks, PyKey.key k, e1, e, by rw [KReps.len r]; exact Evl.sz_lt hl, rfl⟩, q (W2.put d _ b) ((Grow.s g).trans (md_put b)) (g.on.trans (md_put b).on) ⟨b, _, upd_same, KReps.put r k (rep_s g2 rv)⟩⟩⟩
theorem ek_of [Py κ] {k : κ} (hv : ∀ {H : Hp} {v : V}, rep K H v k → v = kV (PyKey.key k)) (h : EvR ε K te σ W k) : EvP ε te σ W (fun u _ => u = kV (PyKey.key k)) := fun W1 g1 Q q => h W1 g1 _ fun v W2 g2 r => q v W2 g2 (hv r)
theorem ek_int {n : Int} (h : EvR ε K te σ W n) : EvP ε te σ W (fun u _ => u = kV (PyKey.key n)) := ek_of (fun r => r) h
theorem ek_str {n : Str} (h : EvR ε K te σ W n) : EvP ε te σ W (fun u _ => u = kV (PyKey.key n)) := ek_of (fun r => r) h
theorem klk {H : Hp} {ks : List (Key × V)} (r : KReps K H ks kv) (k : κ) : (klook kv k = none ∧ valV ks (PyKey.key k) = none) ∨ ∃ x v, klook kv k = some x ∧ valV ks (PyKey.key k) = some v ∧ rep K H v x := by
  cases e : klook kv k with
  | none => exact .inl ⟨rfl, r.none e⟩
  | some x =>
    obtain ⟨v, h1, h2⟩ := r.some e
    exact .inr ⟨x, v, rfl, h1, h2⟩
/-- d.get(k, x) -/
theorem ev_dget2 {i : Nat} {k : κ} {x : α} (hd : σ[i]? = some (some (.ref d))) (m : DMut K W d kv) (hS : d ∉ ε.S) (hk : EvP ε ty σ W (fun u _ => u = kV (PyKey.key k))) (hx : EvR ε K tx σ W x) : EvR ε K (tDGet2 (tVar i) ty tx) σ W ((klook kv k).getD x) := fun W1 g1 Q q => by
  obtain ⟨ks, e1, r⟩ := (m.s g1 hS).ex
  refine ⟨_, hd, d, rfl, .inl ⟨ks, .inl e1⟩, hk W1 g1 _ fun u W2 g2 eu => hx W2 (g1.trans g2) _ fun w W3 g3 rw => ?_⟩
  obtain ⟨ks, e3, r⟩ := (m.s ((g1.trans g2).trans g3) hS).ex
  rcases klk r k with ⟨h1, h2⟩ | ⟨y, v, h1, h2, h3⟩
  · exact ⟨none, .inl ⟨ks, _, .inl e3, eu, h2.symm⟩, q _ W3 (g2.trans g3) (by rw [h1]; exact rw)⟩
  · exact ⟨some v, .inl ⟨ks, _, .inl e3, eu, h2.symm⟩, q _ W3 (g2.trans g3) (by rw [h1]; exact h3)⟩
/-- it shall stay -/
theorem DMut.fix (m : DMut K W d kv) : ∃ o, ∃ h : W.H d = some o, DictAt K (W.fix d o h) (.ref d) ⟨kv⟩ ∧ Ex W.B (W.fix d o h).B ∧ ∀ W0 S, Md S W0 W → W0.H d = none → Md S W0 (W.fix d o h) := by
  obtain ⟨ks, e, r⟩ := m.ex
  exact ⟨_, e, ⟨d, ks, rfl, upd_same, e, KReps.mono (exExt (ex_fix e m.b)) r⟩, ex_fix e m.b, fun W0 S g f => md_fix g e m.b f⟩
end
/-! ### dicts with tuples of ints as keys -/
structure TMut (W : Wd) (d : Addr) (ks : List (List Key)) : Prop where
  b : W.B d = none
  ex : ∃ kvs, W.H d = some (.dT kvs) ∧ kvs.map (·.1) = ks
section
variable {W W' : Wd} {d : Addr} {ks : List (List Key)} {S : List Addr} {K : Fg} {σ : SS} {ty tv te : TE} {ε : Ef}
theorem TMut.nt (m : TMut W d ks) : Nt W.H d := by
  obtain ⟨k, e, _⟩ := m.ex
  exact ⟨_, e, fun _ z => by cases z⟩
theorem TMut.g (m : TMut W d ks) (g : Md S W W') (h : d ∉ S) : TMut W' d ks := by
  obtain ⟨k, e, r⟩ := m.ex
  have := g.mut h e m.b
  exact ⟨this.2, k, this.1, r⟩
theorem TMut.gr (m : TMut W d ks) (g : Grow W W') : TMut W' d ks := m.g g (by simp)
def tput (ks : List (List Key)) (k : List Key) : List (List Key) := if (ks.any fun x => decide (x = k)) = true then ks else ks ++ [k]
theorem tput_keys (kvs : List (List Key × V)) (k : List Key) (v : V) : (putK kvs k v).map (·.1) = tput (kvs.map (·.1)) k := by
  unfold putK tput
  have : (kvs.any fun kv => decide (kv.1 = k)) = ((kvs.map (·.1)).any fun x => decide (x = k)) := by
    rw [List.any_map]
    rfl
  by_cases h : (kvs.any fun kv => decide (kv.1 = k)) = true
  · rw [if_pos h, if_pos (this ▸ h), List.map_map]
    refine List.map_congr_left fun q _ => ?_
    show (if q.1 = k then (q.1, v) else q).1 = q.1
    split <;> rfl
  · rw [if_neg h, if_neg (fun z => h (this ▸ z)), List.map_append]
    rfl
theorem tput_mem {ks : List (List Key)} {k j : List Key} : j ∈ tput ks k ↔ j ∈ ks ∨ j = k := by
  unfold tput
  split
  · rename_i h
    obtain ⟨x, hx, e⟩ := List.any_eq_true.mp h
    have e' : x = k := of_decide_eq_true e
    exact ⟨.inl, fun z => z.elim id fun e => by rw [e, ← e']; exact hx⟩
  · simp
theorem tput_len (ks : List (List Key)) (k : List Key) : (tput ks k).length ≤ ks.length + 1 := by
  unfold tput
  split <;> simp
def ikey (xs : List Int) : List Key := xs.map Sum.inl
theorem ikey_vals {xs : List Int} : (ikey xs).map kV = xs.map V.int := by
  unfold ikey
  rw [List.map_map]
  rfl
theorem s_tput {α : Type} [Py α] {D : Ends} {i : Nat} {k : Tup Int} {x : α} (hd : σ[i]? = some (some (.ref d))) (m : TMut W d ks) (hv : EvR pur K tv σ W x) (hk : EvR pur K ty σ W k) (hl : ks.length ≤ 1000000)
    (q : ∀ W', Md [d] W W' → On W W' → TMut W' d (tput ks (ikey k.items)) → D.nx σ W'.H) : sDPut (tVar i) ty tv D σ W.H := hv W (.start trivial) _ fun v W1 g1 rv => ⟨.ref d, hd, hk W1 g1 _ fun u W2 g2 ⟨b, vs, e, s, r⟩ => by
  have g := (g1.trans g2).pure
  obtain ⟨kvs, e1, r1⟩ := (m.gr g).ex
  have bd := (m.gr g).b
  have len : kvs.length = ks.length := by rw [← r1, List.length_map]
  refine ⟨d, _, rfl, .inr ⟨kvs, ikey k.items, b, e1, e, ?_, by rw [len, PySem.sizeLine_eq]; omega, rfl⟩, q (W2.put d _ bd) ((Grow.s g).trans (md_put bd)) (g.on.trans (md_put bd).on) ⟨bd, _, upd_same, by rw [tput_keys, r1]⟩⟩
  rw [ikey_vals, ← reps_int r]
  exact W2.sub.et s⟩
abbrev rListDT : List V → Hp → VK → Prop := fun xs H Q => ∃ d kvs, xs = [V.ref d] ∧ Rd H d (.dT kvs) ∧ ∀ p bs, H p = none → IsKeys H kvs bs → Q (.ref p) (upd H p (.lst (bs.map V.ref)))
/-- list(d) -/
theorem ev_listDT {i : Nat} {xs : List (Tup Int)} (hd : σ[i]? = some (some (.ref d))) (m : TMut W d ks) (hx : ks = xs.map fun t => ikey t.items) : EvR pur K (tCB rListDT (tCons (tVar i) tNil)) σ W xs := fun W1 g1 Q q => by
  obtain ⟨kvs, e1, r1⟩ := (m.gr g1.pure).ex
  refine ⟨_, hd, d, kvs, rfl, .inl e1, fun p bs hp hk => ?_⟩
  have gt := W1.grow_tup bs
  have hp' : (W1.tup bs).H p = none := hp
  refine q _ ((W1.tup bs).add p _) (.of (gt.trans (Wd.grow_add _ hp'))) ⟨p, _, rfl, upd_same, ?_⟩
  have rB : Reps K (W1.tup bs).B (bs.map V.ref) xs := by
    subst hx
    clear q e1
    have main : ∀ (kvs : List (List Key × V)) (bs' : List Addr) (xs : List (Tup Int)), (∀ b ∈ bs', b ∈ bs) → IsKeys W1.H kvs bs' → kvs.map (·.1) = xs.map (fun t => ikey t.items) → Reps K (W1.tup bs).B (bs'.map V.ref) xs := by
      intro kvs
      induction kvs with
      | nil =>
        intro bs' xs _ hk hm
        cases hk
        cases xs with
        | nil => exact .nil
        | cons x xs => cases hm
      | cons kv kvs ih =>
        intro bs' xs hs hk hm
        cases hk with
        | cons h1 h2 =>
          cases xs with
          | nil => cases hm
          | cons x xs =>
            rw [List.map_cons, List.map_cons] at hm
            injection hm with hm1 hm2
            refine .cons ⟨_, _, rfl, Wd.tup_at h1 (hs _ List.mem_cons_self), ?_⟩ (ih _ _ (fun b hb => hs b (List.mem_cons_of_mem _ hb)) h2 hm2)
            rw [hm1, ikey_vals]
            exact int_reps _
    exact main kvs bs xs (fun _ h => h) hk r1
  exact Reps.mono (exExt (Wd.grow_add _ hp').b) rB
end
/-! ### [e for x in ..] where e is drawn -/
section
variable {α β : Type} [Py α] [Py β] {K : Fg} {σ : SS} {W W' : Wd} {v : V} {te : TE} {wi : TI} {ε : Ef}
/-- what is walked, not known whole -/
def EvIQ {α : Type} [Py α] (ε : Ef) (K : Fg) (wi : TI) (σ : SS) (W : Wd) (P : List α → Prop) : Prop :=
  ∀ W1, Stp ε W W1 → ∀ R : It → Hp → Prop, (∀ J S W2 xs, P xs → Stp ε W1 W2 → S W2 → (∀ W W', S W → Stp ε W W' → S W') → Src K J S xs → R J W2.H) → wi σ W1.H R
theorem EvI.q {xs : List α} (h : EvI ε K wi σ W xs) : EvIQ ε K wi σ W (fun ys => ys = xs) := fun W1 g1 R k => h W1 g1 R fun J S W2 g2 s sg src => k J S W2 xs rfl g2 s sg src
theorem ei_rngQ {P : Int → Prop} (h : EvP ε te σ W (fun v _ => ∃ n, v = .int n ∧ P n)) (hb : ∀ n, P n → n ≤ 1000000000 ∧ -1000000000 ≤ n) : EvIQ (α := Int) ε K (iRng1 (tCons te tNil)) σ W (fun xs => ∃ n, P n ∧ xs = rng 0 n.toNat) := fun W1 g1 R k => h W1 g1 _ fun v W2 g2 ⟨n, e, p⟩ =>
  ⟨n, by rw [e], by have := hb n p; omega, by have := hb n p; omega, k _ (fun _ => True) W2 _ ⟨n, p, rfl⟩ g2 trivial (fun _ _ _ _ => trivial) src_range⟩
theorem en_lcQ {j : Nat} {P : List α → Prop} {R : β → Prop} (hi : EvIQ ε K wi σ W P) (hl : ∀ xs, P xs → xs.length ≤ 100000) (he : ∀ (x : α) v W', Stp ε W W' → rep K W'.B v x → EvP ε te ((wipe σ [j]).set j (some v)) W' (fun u W2 => ∃ y : β, R y ∧ rep K W2.B u y)) :
    ∀ W1, Stp ε W W1 → ∀ Q : VK, (∀ p vs (xs : List α) (ys : List β) W2, P xs → Stp ε W1 W2 → W1.H p = none → W2.B p = none → W2.H p = some (.lst vs) → Reps K W2.B vs ys → ys.length = xs.length → (∀ y ∈ ys, R y) → Q (.ref p) W2.H) → tLc wi (gName j) tYes te [j] σ W1.H Q := fun W1 g1 Q k =>
  hi W1 g1 _ fun J S W2 xs hP g2 s2 sg src D hD => by
    have hl := hl xs hP
    have DS : D ∉ ε.S := Ef.off g2.i hD
    refine ⟨fun i m H => m = xs.length - i ∧ i ≤ xs.length ∧ ∃ Wi acc ys, Wi.H = H ∧ Stp ε W2 Wi ∧ Wi.B D = none ∧ Wi.H D = some (.lst acc) ∧ Reps K Wi.B acc ys ∧ ys.length = i ∧ ∀ y ∈ ys, R y, ⟨xs.length, rfl, Nat.zero_le _, W2.put D (.lst []) (W2.free hD), [], ([] : List β), rfl, ⟨md_mut (.refl _ _) (W2.free hD) hD, i_put DS g2.i _⟩, W2.free hD, upd_same, .nil, rfl, by simp⟩, ?_⟩
    rintro i m H ⟨rfl, hle, Wi, acc, ys, rfl, gi, bD, hDi, rs, hyl, hR⟩
    have si : S Wi := sg _ _ s2 gi
    have hacc : acc.length ≤ i := by rw [Reps.len rs, hyl]; exact Nat.le_refl _
    by_cases hlt : i < xs.length
    · refine .inr ⟨src.go i Wi si hlt, fun H => i + 1 ≤ xs.length ∧ ∃ Wi acc ys, Wi.H = H ∧ Stp ε W2 Wi ∧ Wi.B D = none ∧ Wi.H D = some (.lst acc) ∧ Reps K Wi.B acc (ys : List β) ∧ ys.length = i + 1 ∧ ∀ y ∈ ys, R y, fun H' h' => ⟨_, by omega, rfl, h'⟩, fun v H'' hy => ?_⟩
      obtain ⟨x, W3, rfl, g3', hx, r⟩ := src.yld i Wi v H'' si hlt hy
      have g3 : Stp ε Wi W3 := gi.rf.and g3'
      have m3 := g3.md.mut DS hDi bD
      refine ⟨wipe1, ?_⟩
      refine et_yes (ε := ε) W3 g3.rf _ fun W4 g4 => ?_
      rw [if_pos rfl]
      have m4 := g4.md.mut DS m3.1 m3.2
      refine he x v W4 ((((g1.trans g2).trans gi).trans g3).trans g4) (rep_s g4 r) W4 g4.rf _ fun u W5 g5 ⟨y, hy1, r5⟩ => ?_
      have m5 := g5.md.mut DS m4.1 m4.2
      refine ⟨acc, m5.1, Evl.sz_lt (by omega), hlt, W5.put D _ m5.2, acc ++ [u], ys ++ [y], rfl, ⟨md_mut (((gi.trans g3).trans g4).trans g5).md m5.2 hD, i_put DS g5.i _⟩, m5.2, upd_same, Reps.snoc (Reps.mono (exExt ((g3.trans g4).trans g5).md.b) rs) r5, by rw [List.length_append, hyl]; rfl, fun z hz => ?_⟩
      rcases List.mem_append.mp hz with h | h
      · exact hR z h
      · rw [List.mem_singleton.mp h]; exact hy1
    · have e : i = xs.length := by omega
      subst e
      exact .inl ⟨src.stop _ Wi si (Nat.le_refl _), k D acc xs ys Wi hP (g2.trans gi) (by
        cases e : W1.H D with
        | none => rfl
        | some o => exact absurd hD (g2.md.d D (by rw [e]; exact fun z => by cases z))) bD hDi rs hyl hR⟩
theorem ep_lcQ {j : Nat} {P : List α → Prop} {R : β → Prop} (hi : EvIQ ε K wi σ W P) (hl : ∀ xs, P xs → xs.length ≤ 100000) (he : ∀ (x : α) v W', Stp ε W W' → rep K W'.B v x → EvP ε te ((wipe σ [j]).set j (some v)) W' (fun u W2 => ∃ y : β, R y ∧ rep K W2.B u y)) :
    EvP ε (tLc wi (gName j) tYes te [j]) σ W (fun v W' => ∃ (xs : List α) (ys : List β), P xs ∧ ys.length = xs.length ∧ (∀ y ∈ ys, R y) ∧ rep K W'.B v ys) := fun W1 g1 Q k =>
  en_lcQ hi hl he W1 g1 Q fun p vs xs ys W2 hP g2 f n e r hly hR => k _ (W2.fix p _ e) (g2.fix f g1.i e n) ⟨xs, ys, hP, hly, hR, p, vs, rfl, upd_same, Reps.mono (exExt (ex_fix e n)) r⟩
/-- m + a drawn number -/
theorem ep_add {m : Int} {P : Int → Prop} (h : EvP ε te σ W (fun v _ => ∃ n, v = .int n ∧ P n)) : EvP ε (tOp oAdd (tC (.int m)) te) σ W (fun v _ => ∃ n, v = .int (m + n) ∧ P n) := fun W1 g1 Q k => h W1 g1 _ fun v W2 g2 ⟨n, e, p⟩ =>
  ⟨m, n, rfl, e, k _ W2 g2 ⟨n, rfl, p⟩⟩
/-- a drawn number == m -/
theorem ep_eq (K0 : Fg) {m : Int} {P : Int → Prop} (h : EvP ε te σ W (fun v _ => ∃ n, v = .int n ∧ P n)) : EvP ε (tOp rEq te (tC (.int m))) σ W (fun v _ => ∃ b : Bool, v = .bl b) := fun W1 g1 Q k => h W1 g1 _ fun v W2 g2 ⟨n, e, p⟩ => by
  subst e
  exact ro_eqI (K := K0) _ _ W2 rfl rfl Q fun w W3 g3 r => k w W3 (g2.and g3) ⟨_, r⟩
/-- a test that is drawn -/
def EvTQ (ε : Ef) (tt : TT) (σ : SS) (W : Wd) : Prop := ∀ W1, Stp ε W W1 → ∀ Q : Bool → Hp → Prop, (∀ b W2, Stp ε W1 W2 → Q b W2.H) → tt σ W1.H Q
theorem etq (h : EvP ε te σ W (fun v _ => ∃ b : Bool, v = .bl b)) : EvTQ ε (tTest te) σ W := fun W1 g1 Q k => h W1 g1 _ fun v W2 g2 ⟨b, e⟩ => ⟨b, e, k b W2 g2⟩
theorem q_whenQ {D : Ends} {t : TT} {tu tz : TS} (h : EvTQ ε t σ W) (s : ε.I W) (h1 : ∀ W', Stp ε W W' → tu { D with nx := tz D } σ W'.H) (h2 : ∀ W', Stp ε W W' → tz D σ W'.H) : tSeq (tIfS t tu tNext) tz D σ W.H := h W (.start s) _ fun b W' g => by
  cases b with
  | true => exact h1 W' g
  | false => exact h2 W' g
/-- both ways meet again in R -/
theorem q_whenJ {D : Ends} {t : TT} {tu tz : TS} (R : Wd → Prop) (h : EvTQ ε t σ W) (s : ε.I W) (k : ∀ W', R W' → tz D σ W'.H) (h1 : ∀ W', Stp ε W W' → (∀ W'', R W'' → tz D σ W''.H) → tu { D with nx := tz D } σ W'.H) (h2 : ∀ W', Stp ε W W' → R W') : tSeq (tIfS t tu tNext) tz D σ W.H :=
  q_whenQ h s (fun W' g => h1 W' g k) (fun W' g => k W' (h2 W' g))
end
end B
/-! B: == of own instances, methods called by keywords alone -/
namespace B
open PySem L2 PySem.Spec PyProof.Rows
section
variable {X : Cx} {CX : CXT} {k : Nat} {f C : Addr} {fd : FuncData} {ps ks : List Str} {sp : Sp} {E : XK} {o : Expr} {ta : TE} {tk : TA} {kws : List Keyword} {m : Str} {apos pos : Pos}
/-- x == y, two instances of the class at C, whose own __eq__ keeps the promise sp -/
def rInsEq (C : Addr) (sp : Sp) (E : XK) : R2 := fun x y H Q => ∃ a b dx dy fs gs, x = .ref a ∧ y = .ref b ∧ H a = some (.ins C dx fs) ∧ H b = some (.ins C dy gs) ∧ sp [x, y] H Q E
theorem op_insEq (F : FnOk X.prog X.w X.K X.mg X.base CX k f fd ps sp) (hr : Room k X.A) (hm : Meth X.K C "__eq__" f) (hb : Binds X.K fd ps []) (hx : Passes CX X E) : OpR X (compareOp .Eq) (rInsEq C sp E) := by
  intro pins s σ H x y v u Q I rx ry h
  obtain ⟨a, b, dx, dy, fs, gs, rfl, rfl, ha, hb', q⟩ := h
  cases (show v = Value.ref a from rx)
  cases (show u = Value.ref b from ry)
  obtain ⟨mA, J, _⟩ := ins_get I.hok ha
  obtain ⟨mB, J', _⟩ := ins_get I.hok hb'
  obtain ⟨od, J, _⟩ := J.look
  obtain ⟨od', J', _⟩ := J'.look
  obtain ⟨m, hF⟩ := I.fr
  show wpAny (model X.prog X.w) X.A (richCompare .Eq (.ref a) (.ref b)) (EP X pins σ Q) X.xe s
  refine PySem.W.cmp_K (op := .Eq) (tb := .ref C) hr.units0 hF I.ok.mod.kin J J'.type (by simp [PySem.W.notFirst]) hm.at_ hm.fn ?_
  refine wpAny_mono (run_fn (us := [.ref a, .ref b]) (vs := [.ref a, .ref b]) (dvs := []) F hr hb .nil hx I (.cons rfl (.cons rfl .nil)) q) (fun w s' z => ?_) fun _ _ x => x
  obtain ⟨z', H', I', rz, qz⟩ := z
  exact SlX.cmpback rz ⟨z', H', I', rz, qz⟩
/-- how a method binds keywords alone, self ahead -/
def KwM (K : Fg) (fd : FuncData) (ps ks : List Str) (l : List Nat) : Prop := ∀ (s : Shared) (o : Value) (ws : List Value), K.In s.heap → ws.length = ks.length → BindsTo s fd ⟨[o], ks.zip ws⟩ (ps.zip (o :: perm l ws))
theorem kwm_mk {K : Fg} {x qual : Str} {st : Stmt} {f : Addr} {fd : FuncData} {ps ks : List Str} {l : List Nat} (F : Fun K x qual st f fd)
    (h : ∀ (kV doc pm : Value) (an : Option Addr) (cdv ct : Value) (o : Value) (us : List Value), us.length = ks.length → bindArgs (PySem.W.fnOf x qual (defArgs st) (defBody st) (defScope st) .none kV doc pm an cdv ct) ⟨[o], ks.zip us⟩ = pure (ps.zip (o :: perm l us))) : KwM K fd ps ks l := by
  obtain ⟨oc, od, kV, doc, pm, an, cdv, ct, osl, rfl, lk, hcd⟩ := F.ex
  exact fun s o ws _ hl => .of_eq (h kV doc pm an cdv ct o ws hl)
def tMethKw (C : Addr) (m : Str) (sp : Sp) (l : List Nat) (n : Nat) (E : XK) (ta : TE) (tk : TA) : TE := fun σ H Q => ta σ H fun x H1 => ∃ a dx fs, x = .ref a ∧ H1 a = some (.ins C dx fs) ∧ fs.lookup m = none ∧ tk σ H1 fun zs H2 => zs.length = n ∧ sp (x :: perm l zs) H2 Q E
theorem pe_methKw {l : List Nat} {n : Nat} {pl : Sem Bool} (he : PE X o ta) (c : Cls X.K C) (hm : Meth X.K C m f) (F : FnOk X.prog X.w X.K X.mg X.base CX k f fd ps sp) (hr : Room k X.A) (hb : KwM X.K fd ps ks l) (hx : Passes CX X E)
    (hkw : PK X kws tk) (hall : (backToKw pos (keywordEach kws X.env)).all (·.1.isSome) = true := by rfl) (hks : (backToKw pos (keywordEach kws X.env)).filterMap (·.1) = ks := by rfl)
    (hn : n = ks.length := by rfl) (hpl : ((backTo pos (starEach [] X.env)).any (·.1) || (backToKw pos (keywordEach kws X.env)).any (·.1.isNone)) = false := by rfl)
    (ht : eval (.Call (.Attribute o m apos) [] kws pos) X.env = (do
      let ov ← eval o X.env
      standAt apos.atName
      let (f, first) ← holding [ov] (getMethod ov m pl)
      callWith pos f first (backTo pos (starEach [] X.env)) (backToKw pos (keywordEach kws X.env))) := by rfl) :
    PE X (.Call (.Attribute o m apos) [] kws pos) (tMethKw C m sp l n E ta tk) := by
  subst hn
  refine ⟨fun pins s σ H Q I h => ?_⟩
  refine PySem.W.methodCall_KW (pl := pl) (thn (he.run pins s σ H _ I h) fun u s1 ⟨x, H1, I1, rx, a, dx, fs, ex, ea, lk, q⟩ => ?_) ht
  subst ex
  obtain rfl : u = Value.ref a := rx
  refine getmeth_ok I1 ea c hm lk ?_
  refine PySem.W.callWith_KW0 (first := [.ref a]) (h₀ := X.base) I.ok.mod.kin hm.kp hall (thn (hkw.run pos pins s1 σ H1 _ I1 q) fun ws s2 ⟨zs, H2, I2, rz, hl, q2⟩ => ⟨I2.kIn, ?_⟩) hpl
  rw [hks]
  have r2 : Vals (V.ref a :: perm l zs) (Value.ref a :: perm l ws) := .cons rfl (perm_rel l rz)
  refine wpAny_call (codeAny_mono (F.run X.A X.stack s2 H2 ⟨[.ref a], ks.zip ws⟩ (Value.ref a :: perm l ws) (V.ref a :: perm l zs) Q E hr I2.env0 (hb s2 (.ref a) ws I2.kIn (by rw [← rz.length]; exact hl)) r2 q2) fun r s' hq => ?_)
  cases r with
  | error e => exact hx pins σ H2 s2 e s' I2 hq
  | ok fl =>
    cases fl with
    | ret u => exact I2.after hq
    | next => exact False.elim hq
    | brk => exact False.elim hq
    | cont => exact False.elim hq
end
/-- what is asked of a class whose instances have a dict; isinstance of itself -/
structure ClsI (K : Fg) (C : Addr) : Prop where
  cl : Cls K C
  ha : PySem.W.findIn K (.ref C) "__class__" = some (some (.builtin "object.__class__"))
  hn : PySem.W.specialIn K (.builtin "object.__class__") "__get__" = some (some (.builtin "getset_descriptor.__get__"))
  ht : PySem.W.takesIn K (.builtin "object.__class__") = some true
  hm : PySem.W.mroIn K C (.type "object") = some true
  ki : PySem.W.kitOne K (.ref C) (.ref C) = some true
theorem ClsI.ty {K : Fg} {C a dx : Addr} {H : Hp} {fs : List (Str × V)} (c : ClsI K C) (e : H a = some (.ins C dx fs)) : TyX K H (.ref a) (.ref C) := .base (.ins e c.cl c.ha c.hn c.ht c.hm)
/-- isinstance of an own instance -/
theorem rc_isi_own {K : Fg} {C a dx : Addr} {H : Hp} {Q : VK} {fs : List (Str × V)} (c : ClsI K C) (e : H a = some (.ins C dx fs)) (q : Q (.bl true) H) : rIsi K [.ref a, .ref C] H Q := ⟨.ref a, .ref C, .ref C, .ref C, true, rfl, .own C, c.ty e, c.ki, q⟩
/-! ### enumerate(tuple) -/
theorem enumT_new (t : Addr) (items : Array Value) :
    Meets (Builtin.«enumerate.__new__» ⟨[.type "enumerate", .ref t], []⟩) (fun _ R s => s.heap.IsTuple t items ∧
      R (.ok (.ret (.ref (s.heap.objs.size + 1)))) { s with heap := (s.heap.push { cls := .type "tuple_iterator", data := .fields #[.ref t, .int 0 0] }).push { cls := .type "enumerate", data := .fields #[.none, .bool false, .ref s.heap.objs.size, rawInt 0, .none, .none] } }) :=
  .of_wp fun prog w A R s h => by
    obtain ⟨hp, g, d, tk, os⟩ := s
    obtain ⟨h1, h⟩ := h
    have hsub := sub_enumerate
    have hz : (hp.push { cls := .type "tuple_iterator", data := .fields #[.ref t, .int 0 0] }).objs.size = hp.objs.size + 1 := Heap.size_push ..
    have q1 : ∀ {A' : Around} {E : Value → Shared → Prop} {Q : Value → Shared → Prop}, Q (.ref hp.objs.size) ⟨hp.push { cls := .type "tuple_iterator", data := .fields #[.ref t, .int 0 0] }, g, d, tk, os⟩ → wpAny (model prog w) A' (pyIter (.ref t)) Q E ⟨hp, g, d, tk, os⟩ :=
      fun q => wpAny_pyIter_tuple (s := ⟨hp, g, d, tk, os⟩) h1 q
    have h' : ∃ v, Fin.done (Flow.ret (Value.ref (hp.push { cls := .type "tuple_iterator", data := .fields #[.ref t, .int 0 0] }).objs.size)) = Fin.done (Flow.ret v) ∧ R (.ok (.ret v)) ⟨(hp.push { cls := .type "tuple_iterator", data := .fields #[.ref t, .int 0 0] }).push { cls := .type "enumerate", data := .fields #[.none, .bool false, .ref hp.objs.size, rawInt 0, .none, .none] }, g, d, tk, os⟩ := ⟨_, rfl, by rw [hz]; exact h⟩
    wp_walk using q1
    refine wpAny_stack_any fun st => wpAny_pure ?_
    split
    · rename_i c _ _ _ _ _
      cases (c == Value.type "enumerate")
      · wp_walk using q1
        exact h'
      · wp_walk using q1
        exact h'
    · wp_walk using q1
      exact h'
def IteT (K : Fg) (a : Addr) (n : Nat) : It :=
  ⟨fun i H => i < n ∧ ∃ xs : List V, SqT K H a xs ∧ xs.length = n, fun i H v H' => ∃ T x, v = .ref T ∧ H T = none ∧ H' = upd H T (.tup [.int (i : Nat), x]) ∧ ∀ xs, SqT K H a xs → xs[i]? = some x,
    fun i H => n ≤ i ∧ ∃ xs : List V, SqT K H a xs ∧ xs.length = n⟩
def EtTn (a e it : Addr) (n i : Nat) (h : Heap) : Prop := (∃ old, IsEnum h e it ((i : Nat) : Int) old) ∧ h.IsTupleIter it a i ∧ e ≠ it ∧ e ≠ a ∧ i ≤ n
theorem turn_enumT {P : Program} {w : World} {K : Fg} {elts : List Expr} {kk : Nat} {tpos : Pos} (a e it : Addr) (n : Nat) :
    Turn P w K (.Tuple elts kk tpos) (IteT K a n) [e, it] e (EtTn a e it n) where
  mem := by simp
  obj := fun i h st b hb => by
    obtain ⟨⟨old, he⟩, ⟨o, ho, hc, hd⟩, _⟩ := st
    simp only [List.mem_cons, List.not_mem_nil, or_false] at hb
    rcases hb with z | z <;> rw [z]
    · exact ⟨_, he, fun v q => nomatch q⟩
    · exact ⟨o, ho, fun v q => by rw [hd] at q; cases q⟩
  keep := fun i h h' st k => let ⟨⟨old, he⟩, hi, hne⟩ := st; ⟨⟨old, k e (by simp) _ he⟩, hi.at fun o q => k it (by simp) o q, hne⟩
  item := by
    intro X hP hw hK hc i pins s σ H E I hf st hg
    subst hP hw hK
    obtain ⟨⟨old, he⟩, hit, hne, hea, hle⟩ := st
    obtain ⟨hlt, xs, hq, hn⟩ := hg
    obtain ⟨its, rv, p, hz⟩ := I.tuple hq
    have hl : its.length = n := by rw [← rv.length]; exact hn
    have hel : e < s.heap.objs.size := Heap.lt_size he
    have hil : it < s.heap.objs.size := by obtain ⟨_, q, _⟩ := hit; exact Heap.lt_size q
    have hef : e ∉ [it, a] := by simp [hne, hea]
    refine wpAny_pyNext_enum_itemD (Draws.tuple (show X.A.in1.handled = none from I.ok.hd hc) it a (ti_ne hit p) its.toArray) he ⟨hit, p⟩ (by simpa [hl] using hlt) hne hef fun u h' tk hu ho hit' hT hsz hk => ?_
    have hx : xs[i]? = some (xs[i]'(by omega)) := List.getElem?_eq_getElem (by omega)
    obtain ⟨u', e3, ru⟩ := rv.get hx
    have e2 : its[i]? = some u := by simpa using hu
    rw [e2] at e3
    cases e3
    refine ⟨_, rfl, wpAny_letOwnedTupleGo_enum (s := { s with heap := h', toks := tk + 1 }) ho fun h'' he' sb => ?_⟩
    have hT2 : h''.get? s.heap.objs.size = some { cls := .type "tuple", data := .seq #[.int i tk, u] } := (sb.2 _ (Nat.ne_of_gt hel)).trans hT
    have new : ObjOk X.prog X.w (upd H s.heap.objs.size (.tup [.int (i : Nat), xs[i]])) h'' s.heap.objs.size (.tup [.int (i : Nat), xs[i]]) :=
      ⟨by show 2 ≤ sizeLine; decide, [.int i tk, u], .cons ⟨_, rfl⟩ (.cons ru .nil), ⟨_, hT2, rfl, _, rfl⟩⟩
    have I1 : Inv X pins σ (upd H s.heap.objs.size (.tup [.int (i : Nat), xs[i]])) { s with heap := h'', toks := tk + 1 } :=
      I.turnedNew (ch := [e, it]) (fun b ob hb q => (sb.2 b (fun z => hb (by simp [z]))).trans (hk b ob (fun z => hb (by simp [z])) (fun z => hb (by simp [z])) q)) hf (Nat.le_refl _) new
    refine ⟨.ref s.heap.objs.size, _, I1, rfl, ⟨_, xs[i], rfl, I.hok.fresh (Nat.le_refl _), rfl, fun ys hy => by rw [I.tuple_inj hy hq]; exact hx⟩, ⟨⟨u, ?_⟩, hit'.1.at fun o q => (sb.2 it (Ne.symm hne)).trans q, hne, hea, by omega⟩, fun b hb => ?_⟩
    · have e1 : ((i + 1 : Nat) : Int) = (i : Int) + 1 := by omega
      rw [e1]; exact he'
    · have hb' : b < s.heap.objs.size := by
        simp only [List.mem_cons, List.not_mem_nil, or_false] at hb
        rcases hb with z | z <;> rw [z]
        · exact hel
        · exact hil
      rw [upd_ne (Nat.ne_of_lt hb')]
      exact (hf b hb).1
  done := by
    intro X hP hw hK hc i pins s σ H E I hf st hg
    subst hP hw hK
    obtain ⟨⟨old, he⟩, hit, hne, hea, hle⟩ := st
    obtain ⟨hge, xs, hq, hn⟩ := hg
    obtain ⟨its, rv, p, hz⟩ := I.tuple hq
    have hl : its.length = n := by rw [← rv.length]; exact hn
    obtain ⟨f0, f1, f2, f3, f4, f5⟩ := hf it (by simp)
    have hi : i = its.toArray.size := by simp; omega
    subst hi
    exact wpAny_pyNext_enum_endD (Draws.tuple (show X.A.in1.handled = none from I.ok.hd hc) it a (ti_ne hit p) its.toArray) he ⟨hit, p⟩ fun h' eb => ⟨rfl, I.turned (t' := s.toks) (fun b o hb q => eb b o hb q) f0 f1 f3 f4 f5⟩
  self := fun A i s Q E st h => let ⟨⟨_, he⟩, _⟩ := st; wpAny_pyIter_enum he h
def iEnumT (K : Fg) (ta : TA) : TI := fun σ H R => ta σ H fun vs H1 => ∃ a xs, vs = [.ref a] ∧ SqT K H1 a xs ∧ R (IteT K a xs.length) H1
theorem pi_enumT {X : Cx} {e : Expr} {ta : TA} {p pos tpos : Pos} {elts : List Expr} {kk : Nat} (hg : Gl X "enumerate") (hm : X.mg "enumerate" = none) (ha : PA X [e] ta) (hs : starEach [e] X.env = [(false, eval e X.env)] := by rfl) :
    PI X (.Tuple elts kk tpos) (.Call (.Name "enumerate" p) [e] [] pos) (iEnumT X.K ta) := by
  refine ⟨fun pins s σ H R I h => ?_⟩
  refine Call_ (ld_blt I hg hm boot_enumerate (PyProof.Rows.callWith_type1 (thn (ha.run pos pins s σ H _ I h) fun us s1 ⟨vs, H1, I1, r1, q1⟩ => ?_) hs rfl))
  obtain ⟨a, xs, ex, hq, q⟩ := q1
  subst ex
  cases r1 with
  | cons r rr =>
    cases rr
    cases r
    obtain ⟨its, rv, p', hz⟩ := I1.tuple hq
    have la : a < s1.heap.objs.size := by obtain ⟨o, ho, _⟩ := id p'; exact Heap.lt_size ho
    refine callType_new F.called_enumerate (by decide) (F.typeCall_enumerate_1 _) (F.newCall_enumerate_1 _) (fun obj => F.args_object_init_2 obj _) F.entry_enumerate_new (enumT_new a its.toArray) ⟨p', ?_⟩
    have hz : (s1.heap.push { cls := .type "tuple_iterator", data := .fields #[.ref a, .int 0 0] }).objs.size = s1.heap.objs.size + 1 := Heap.size_push ..
    have he : IsEnum ((s1.heap.push { cls := .type "tuple_iterator", data := .fields #[.ref a, .int 0 0] }).push { cls := .type "enumerate", data := .fields #[.none, .bool false, .ref s1.heap.objs.size, rawInt 0, .none, .none] }) (s1.heap.objs.size + 1) s1.heap.objs.size 0 .none := by
      have := Heap.get?_push_size (s1.heap.push { cls := .type "tuple_iterator", data := .fields #[.ref a, .int 0 0] }) (o := { cls := .type "enumerate", data := .fields #[.none, .bool false, .ref s1.heap.objs.size, rawInt 0, .none, .none] }) rfl
      rw [hz] at this; exact this
    refine ⟨⟨_, he, rfl⟩, wpAny_pyIter_enum he ?_⟩
    have hk : ∀ b o, s1.heap.get? b = some o → ((s1.heap.push { cls := .type "tuple_iterator", data := .fields #[.ref a, .int 0 0] }).push { cls := .type "enumerate", data := .fields #[.none, .bool false, .ref s1.heap.objs.size, rawInt 0, .none, .none] }).get? b = some o := fun b o x => Heap.get?_push_of_some _ (Heap.get?_push_of_some _ x)
    have I2 : Inv X pins σ H1 { s1 with heap := (s1.heap.push { cls := .type "tuple_iterator", data := .fields #[.ref a, .int 0 0] }).push { cls := .type "enumerate", data := .fields #[.none, .bool false, .ref s1.heap.objs.size, rawInt 0, .none, .none] } } := I1.kept (t' := s1.toks) hk
    refine ⟨s1.heap.objs.size + 1, [s1.heap.objs.size + 1, s1.heap.objs.size], _, _, H1, rfl, I2, turn_enumT a (s1.heap.objs.size + 1) s1.heap.objs.size xs.length, ⟨⟨.none, he⟩, ⟨_, Heap.get?_push_of_some _ (Heap.get?_push_size _ rfl), rfl, rfl⟩, Nat.succ_ne_self _, Nat.ne_of_gt (Nat.lt_succ_of_lt la), Nat.zero_le _⟩, fun b hb => ?_, q⟩
    have hle : s1.heap.objs.size ≤ b := by
      simp only [List.mem_cons, List.not_mem_nil, or_false] at hb
      rcases hb with z | z <;> rw [z]
      · exact Nat.le_succ _
      · exact Nat.le_refl _
    exact I1.fpOk hle (I1.hok.fresh hle)
open PySem.W (Tup)
theorem ei_enumT {α : Type} [Py α] {K : Fg} {σ : SS} {W : Wd} {te : TE} {ε : Ef} {xs : Tup α} (h : EvR ε K te σ W xs) : EvJ ε K (iEnumT K (tCons te tNil)) σ W ((rng 0 xs.items.length).zip xs.items) := fun W1 g1 R k => h W1 g1 _ fun v W2 g2 ⟨a, vs, e, s, r⟩ => by
  have hl := Reps.len r
  refine ⟨a, vs, by rw [e], SqT.of (W2.sub.et s), k (IteT K a vs.length) W2 g2 ⟨fun i W' o hi => ?_, fun i W' v H'' o hi ⟨T, x, e1, hT, e2, e3⟩ => ?_, fun i W' o hi => ?_⟩⟩
  · rw [List.length_zip, rng_len] at hi
    exact ⟨by omega, vs, SqT.of (W'.sub.et (o.b _ _ s)), rfl⟩
  · rw [List.length_zip, rng_len] at hi
    obtain ⟨y, h1, h2⟩ := Reps.get r (e3 vs (SqT.of (W'.sub.et (o.b _ _ s))))
    refine ⟨((i : Int), y), W'.add T _, e2.symm, W'.grow_add hT, ?_, T, .int (i : Nat), x, e1, upd_same, rfl, rep_g (W'.grow_add hT) (rex o.b h2)⟩
    rw [List.getElem?_zip_eq_some]
    exact ⟨by rw [rng_get (by omega)]; simp, h1⟩
  · rw [List.length_zip, rng_len] at hi
    exact ⟨by omega, vs, SqT.of (W'.sub.et (o.b _ _ s)), rfl⟩
/-! ### chains of comparisons -/
def tTest3 (r1 r2 r3 : R2) (ta tb tc td : TE) : TT := fun σ H Q => ta σ H fun x H1 => tb σ H1 fun y H2 => r1 x y H2 fun p H3 => ∃ k, p = .bl k ∧
  (if k = true then tc σ H3 fun z H4 => r2 y z H4 fun p H5 => ∃ k, p = .bl k ∧ (if k = true then td σ H5 fun u H6 => r3 z u H6 fun p H7 => ∃ k, p = .bl k ∧ Q k H7 else Q false H5) else Q false H3)
theorem pt_chain3 {X : Cx} {a b c d : Expr} {pos : Pos} {o1 o2 o3 : CmpOp} {r1 r2 r3 : R2} {ta tb tc td : TE} (h1 : OpR X (compareOp o1) r1) (h2 : OpR X (compareOp o2) r2) (h3 : OpR X (compareOp o3) r3) (ha : PE X a ta) (hb : PE X b tb) (hc : PE X c tc) (hd : PE X d td)
    (hm : lastMarks [o1, o2, o3] [b, c, d] = false := by with_unfolding_all rfl) : PT X (.Compare a [o1, o2, o3] [b, c, d] pos) (tTest3 r1 r2 r3 ta tb tc td) := by
  refine ⟨fun pins s σ H Q I h => ?_⟩
  refine isTrue_chain (thn (ha.run pins s σ H _ I h) fun v s1 ⟨x, H1, I1, g1, q1⟩ => test_link (thn (hb.run pins s1 σ H1 _ I1 q1) fun u s2 ⟨y, H2, I2, g2, q2⟩ =>
    thn (h1 pins s2 σ H2 x y v u _ I2 g1 g2 q2) fun d s3 ⟨z, H3, I3, g3, k, e, q3⟩ => ?_)) hm
  subst e
  cases g3
  refine wpAny_truthy_bool ?_
  cases k with
  | false => exact ite_ff ⟨H3, I3, q3⟩
  | true =>
    refine ite_tt (test_link (thn (hc.run pins s3 σ H3 _ I3 q3) fun w' s4 ⟨z', H4, I4, g4, q4⟩ => thn (h2 pins s4 σ H4 y z' u w' _ I4 g2 g4 q4) fun d' s5 ⟨z2, H5, I5, g5, k2, e2, q5⟩ => ?_))
    subst e2
    cases g5
    refine wpAny_truthy_bool ?_
    cases k2 with
    | false => exact ite_ff ⟨H5, I5, q5⟩
    | true =>
      refine ite_tt (test_last (thn (hd.run pins s5 σ H5 _ I5 q5) fun w6 s6 ⟨z6, H6, I6, g6, q6⟩ => thn (h3 pins s6 σ H6 z' z6 w' w6 _ I6 g4 g6 q6) fun d7 s7 ⟨z7, H7, I7, g7, k3, e3, q7⟩ => ?_))
      subst e3
      cases g7
      exact wpAny_truthy_bool ⟨H7, I7, q7⟩
section
variable {α β γ δ : Type} [Py α] [Py β] [Py γ] [Py δ] {K : Fg} {σ : SS} {W : Wd} {ta tb tc td : TE} {r1 r2 r3 : R2} {ε : Ef} {x : α} {y : β} {z : γ} {u : δ} {b1 b2 b3 : Bool}
/-- a op b op c as a value -/
theorem ev_chain (ha : EvR ε K ta σ W x) (hb : EvR ε K tb σ W y) (hc : EvR ε K tc σ W z) (h1 : RO K r1 x y b1) (h2 : RO K r2 y z b2) : EvR ε K (tChain r1 r2 ta tb tc) σ W (b1 && b2) := fun W1 g1 Q k =>
  ha W1 g1 _ fun vx W2 g2 rx => hb W2 (g1.trans g2) _ fun vy W3 g3 ry => h1 vx vy W3 (rep_s g3 rx) ry _ fun w W4 g4 rw => ⟨b1, rw, by
    have g14 := (g1.trans g2).trans (g3.and g4)
    cases b1 with
    | false => rw [if_neg Bool.false_ne_true]; exact k _ W4 ((g2.trans g3).and g4) rfl
    | true =>
      rw [if_pos rfl]
      exact hc W4 g14 _ fun vz W5 g5 rz => h2 vy vz W5 (rep_s g5 (rep_g g4 ry)) rz _ fun w' W6 g6 rw' => k w' W6 (((g2.trans (g3.and g4)).trans g5).and g6) rw'⟩
theorem et_chain3 (ha : EvR ε K ta σ W x) (hb : EvR ε K tb σ W y) (hc : EvR ε K tc σ W z) (hd : EvR ε K td σ W u) (h1 : RO K r1 x y b1) (h2 : RO K r2 y z b2) (h3 : RO K r3 z u b3) : EvT ε (tTest3 r1 r2 r3 ta tb tc td) σ W (b1 && (b2 && b3)) := fun W1 g1 Q k =>
  ha W1 g1 _ fun vx W2 g2 rx => hb W2 (g1.trans g2) _ fun vy W3 g3 ry => h1 vx vy W3 (rep_s g3 rx) ry _ fun w W4 g4 rw => ⟨b1, rw, by
    have g14 := (g1.trans g2).trans (g3.and g4)
    cases b1 with
    | false => rw [if_neg Bool.false_ne_true]; exact k W4 ((g2.trans g3).and g4)
    | true =>
      rw [if_pos rfl]
      exact hc W4 g14 _ fun vz W5 g5 rz => h2 vy vz W5 (rep_s g5 (rep_g g4 ry)) rz _ fun w' W6 g6 rw' => ⟨b2, rw', by
        have g16 := g14.trans (g5.and g6)
        cases b2 with
        | false => rw [if_neg Bool.false_ne_true]; exact k W6 (((g2.trans (g3.and g4)).trans g5).and g6)
        | true =>
          rw [if_pos rfl]
          exact hd W6 g16 _ fun vu W7 g7 ru => h3 vz vu W7 (rep_s g7 (rep_g g6 rz)) ru _ fun w8 W8 g8 rw8 => ⟨b3, rw8, k W8 ((((g2.trans (g3.and g4)).trans (g5.and g6)).trans g7).and g8)⟩⟩⟩
end
abbrev oIsB : R2 := fun x y H Q => ∃ a b, x = .bl a ∧ y = .bl b ∧ Q (.bl (decide (a = b))) H
abbrev oNotIsB : R2 := fun x y H Q => ∃ a b, x = .bl a ∧ y = .bl b ∧ Q (.bl (!decide (a = b))) H
theorem ro_isB {K : Fg} {a b : Bool} : RO K oIsB a b (decide (a = b)) := ro_val fun v u _ rv ru Q k => ⟨a, b, rv, ru, k _ rfl⟩
theorem ro_notIsB {K : Fg} {a b : Bool} : RO K oNotIsB a b (!decide (a = b)) := ro_val fun v u _ rv ru Q k => ⟨a, b, rv, ru, k _ rfl⟩
end B
/-! B: fields of own instances; max of a list; slices by places -/
namespace B
open PySem L2
open PySem.W (Tup T3 T4 Datum DatumOrd)
open Evl (Ex)
section
variable {α : Type} [Py α] {K : Fg} {C x : Addr} {W W' : Wd} {σ : SS} {i : Nat} {f : Str} {v : V} {y : α} {fs : List (Str × V)} {dx : Addr} {tv : TE} {ε : Ef}
/-- o.f -/
theorem ev_fld (c : Cls K C) (n : NoAttr K C f) (hd : σ[i]? = some (some (.ref x))) (hb : W.B x = none) (hh : W.H x = some (.ins C dx fs)) (hS : x ∉ ε.S) (hl : fs.lookup f = some v) (r : rep K W.B v y) : EvR ε K (tFld K (tVar i) f) σ W y := fun W1 g1 Q k => by
  have m := g1.md.mut hS hh hb
  exact ⟨_, hd, x, C, dx, fs, v, rfl, m.1, c, n, hl, k v W1 g1.rf (rep_s g1 r)⟩
/-- o.f = v -/
theorem s_fld {D : Ends} (c : Cls K C) (n : NoAttr K C f) (hd : σ[i]? = some (some (.ref x))) (hb : W.B x = none) (hh : W.H x = some (.ins C dx fs)) (hl : fs.length < 1000) (hv : EvR pur K tv σ W y)
    (q : ∀ v W', Md [x] W W' → On W W' → W'.B x = none → W'.H x = some (.ins C dx (putF f v fs)) → rep K W'.B v y → D.nx σ W'.H) : sFld K (tVar i) tv f D σ W.H := hv W (.start trivial) _ fun v W1 g1 rv => by
  have m := g1.pure.mut (by simp) hh hb
  exact ⟨_, hd, x, C, dx, fs, rfl, m.1, c, n, hl, q v (W1.put x _ m.2) ((Grow.s g1.pure).trans (md_put m.2)) (g1.on.trans (md_put m.2).on) m.2 upd_same rv⟩
theorem q_fld {D : Ends} {tz : TS} (c : Cls K C) (n : NoAttr K C f) (hd : σ[i]? = some (some (.ref x))) (hb : W.B x = none) (hh : W.H x = some (.ins C dx fs)) (hl : fs.length < 1000) (hv : EvR pur K tv σ W y)
    (q : ∀ v W', Md [x] W W' → On W W' → W'.B x = none → W'.H x = some (.ins C dx (putF f v fs)) → rep K W'.B v y → tz D σ W'.H) : tSeq (sFld K (tVar i) tv f) tz D σ W.H := s_fld (D := { D with nx := tz D }) c n hd hb hh hl hv q
/-- isinstance(o, C) of an instance of C -/
theorem ev_isOwn (c : ClsI K C) (hd : σ[i]? = some (some (.ref x))) (hb : W.B x = none) (hh : W.H x = some (.ins C dx fs)) (hS : x ∉ ε.S) : EvR ε K (tCB (rIsi K) (tCons (tVar i) (tCons (tC (.ref C)) tNil))) σ W true := fun W1 g1 Q k => by
  have m := g1.md.mut hS hh hb
  refine ⟨_, hd, ?_⟩
  show rIsi K [.ref x, .ref C] W1.H Q
  exact rc_isi_own c m.1 (k _ W1 g1.rf rfl)
/-- max(xs) -/
theorem rc_max {xs : List Int} {m : Int} (h1 : m ∈ xs) (h2 : ∀ y ∈ xs, y ≤ m) : RC1 K (rMax K) xs m := fun v W1 ⟨a, vs, e, s, r⟩ Q k => ⟨a, xs, by rw [e], by rw [← reps_int r]; exact SqL.of (W1.sub.el s), List.length_pos_of_mem h1, fun m' h3 h4 => by
  have : m' = m := Int.le_antisymm (h2 m' h3) (h4 m h1)
  rw [this]
  exact k _ W1 (.refl _ _) rfl⟩
end
theorem cut_to {α : Type} {xs : List α} {n : Nat} (h : n ≤ xs.length) : cutL xs none (some (n : Int)) = xs.take n := by
  unfold cutL
  rw [HT.sIx_none, HT.sIx_nat, List.drop_zero, Nat.sub_zero, Nat.min_eq_left h]
theorem cut_from {α : Type} {xs : List α} {n : Nat} (h : n ≤ xs.length) : cutL xs (some (n : Int)) none = xs.drop n := by
  unfold cutL
  rw [HT.sIx_none, HT.sIx_nat, Nat.min_eq_left h, List.take_of_length_le]
  rw [List.length_drop]
  exact Nat.le_refl _
theorem cut_toN {α : Type} {xs : List α} {n : Nat} : cutL xs none (some (n : Int)) = xs.take n := by
  unfold cutL
  rw [HT.sIx_none, HT.sIx_nat, List.drop_zero, Nat.sub_zero]
  by_cases h : n ≤ xs.length
  · rw [Nat.min_eq_left h]
  · rw [Nat.min_eq_right (by omega), List.take_of_length_le (Nat.le_refl _), List.take_of_length_le (by omega)]
end B
/-! B: more rules: lists that change, dict comprehensions, calls of three and four, targets of three and four names, list(range) -/
namespace B
open PySem L2
open PySem.W (Tup T3 T4 Datum DatumOrd)
open Evl (Ex)
section
variable {α β γ δ : Type} [Py α] [Py β] [Py γ] [Py δ] {K : Fg} {W W' : Wd} {σ : SS} {ε : Ef} {te ta tb tc td : TE} {i : Nat} {d : Addr} {S : List Addr}
theorem ty_tup {xs : Tup α} (W1 : Wd) (v : V) (h : rep K W1.B v xs) : TyX K W1.H v (.type "tuple") := by
  obtain ⟨a, vs, rfl, h1, _⟩ := h
  exact .base (.tup (W1.sub.et h1))
theorem ty_lst {xs : List α} (W1 : Wd) (v : V) (h : rep K W1.B v xs) : TyX K W1.H v (.type "list") := by
  obtain ⟨a, vs, rfl, h1, _⟩ := h
  exact .base (.lst (W1.sub.el h1))
/-- isinstance(x, (c1, c2)), built-in classes -/
theorem ev_isi2 {x : α} {a c1 c2 : String} {b1 b2 : Bool} (h : EvR ε K te σ W x) (ht : ∀ (W1 : Wd) v, rep K W1.B v x → TyX K W1.H v (.type a)) (h1 : kitB a c1 = some b1) (h2 : kitB a c2 = some b2) : EvR ε K (tCB (rIsiT K) (tCons te (tCons (tTup (tCons (tC (.ty c1)) (tCons (tC (.ty c2)) tNil))) tNil))) σ W (b1 || b2) := fun W1 g1 Q k =>
  h W1 g1 _ fun v W2 g2 r => ⟨Evl.sz_of (by show 2 ≤ 100000; decide), fun p hp => ⟨v, p, [.ty c1, .ty c2], .type a, [.type c1, .type c2], b1 || b2, rfl, upd_same, .cons (.ty c1) (.cons (.ty c2) .nil), ht (W2.add p (.tup [.ty c1, .ty c2])) v (rep_g (W2.grow_add hp) r), by
    refine kitAny_cons (kit_ty h1) (fun e => ?_) (fun e => by rw [e]; rfl)
    rw [e, Bool.false_or]
    exact kitAny_cons (kit_ty h2) (fun e2 => by rw [e2]; exact kitAny_nil) (fun e2 => e2), k _ (W2.add p _) (g2.and (W2.grow_add hp)) rfl⟩⟩
/-! ### calls of three, four -/
theorem ev_callP3 {P1 P2 P3 R : V → Wd → Prop} {sp : Sp} {E : XK} (ha : EvP ε ta σ W P1) (hb : EvP ε tb σ W P2) (hc : EvP ε tc σ W P3) (m1 : ∀ v W W', Stp ε W W' → P1 v W → P1 v W') (m2 : ∀ v W W', Stp ε W W' → P2 v W → P2 v W')
    (hs : ∀ v1 v2 v3 W1, Stp ε W W1 → P1 v1 W1 → P2 v2 W1 → P3 v3 W1 → ∀ Q : VK, (∀ u W2, Stp ε W1 W2 → R u W2 → Q u W2.H) → sp [v1, v2, v3] W1.H Q E) : EvP ε (tCall sp [] E (tCons ta (tCons tb (tCons tc tNil)))) σ W R := fun W1 g1 Q k =>
  ha W1 g1 _ fun v1 W2 g2 p1 => hb W2 (g1.trans g2) _ fun v2 W3 g3 p2 => hc W3 ((g1.trans g2).trans g3) _ fun v3 W4 g4 p3 => hs v1 v2 v3 W4 (((g1.trans g2).trans g3).trans g4) (m1 _ _ _ (g3.trans g4) p1) (m2 _ _ _ g4 p2) p3 Q fun u W5 g5 r => k u W5 (((g2.trans g3).trans g4).trans g5) r
theorem ev_callP4 {P1 P2 P3 P4 R : V → Wd → Prop} {sp : Sp} {E : XK} (ha : EvP ε ta σ W P1) (hb : EvP ε tb σ W P2) (hc : EvP ε tc σ W P3) (hd : EvP ε td σ W P4) (m1 : ∀ v W W', Stp ε W W' → P1 v W → P1 v W') (m2 : ∀ v W W', Stp ε W W' → P2 v W → P2 v W') (m3 : ∀ v W W', Stp ε W W' → P3 v W → P3 v W')
    (hs : ∀ v1 v2 v3 v4 W1, Stp ε W W1 → P1 v1 W1 → P2 v2 W1 → P3 v3 W1 → P4 v4 W1 → ∀ Q : VK, (∀ u W2, Stp ε W1 W2 → R u W2 → Q u W2.H) → sp [v1, v2, v3, v4] W1.H Q E) : EvP ε (tCall sp [] E (tCons ta (tCons tb (tCons tc (tCons td tNil))))) σ W R := fun W1 g1 Q k =>
  ha W1 g1 _ fun v1 W2 g2 p1 => hb W2 (g1.trans g2) _ fun v2 W3 g3 p2 => hc W3 ((g1.trans g2).trans g3) _ fun v3 W4 g4 p3 => hd W4 (((g1.trans g2).trans g3).trans g4) _ fun v4 W5 g5 p4 =>
    hs v1 v2 v3 v4 W5 ((((g1.trans g2).trans g3).trans g4).trans g5) (m1 _ _ _ ((g3.trans g4).trans g5) p1) (m2 _ _ _ (g4.trans g5) p2) (m3 _ _ _ g5 p3) p4 Q fun u W6 g6 r => k u W6 ((((g2.trans g3).trans g4).trans g5).trans g6) r
/-- a variable that holds what P tells -/
theorem ep_var {P : V → Wd → Prop} {v : V} (h : σ[i]? = some (some v)) (p : P v W) (m : ∀ W', Stp ε W W' → P v W') : EvP ε (tVar i) σ W P := fun W1 g1 Q k => ⟨v, h, k v W1 g1.rf (m W1 g1)⟩
/-- a method called -/
theorem ev_meth0 {R : V → Wd → Prop} {C : Addr} {m : Str} {sp : Sp} {E : XK} {x : Addr} {dx : Addr} {fs : List (Str × V)} (hd : σ[i]? = some (some (.ref x))) (hb : W.B x = none) (hh : W.H x = some (.ins C dx fs)) (hS : x ∉ ε.S) (hl : fs.lookup m = none)
    (hs : ∀ W1, Stp ε W W1 → ∀ Q : VK, (∀ u W2, Stp ε W1 W2 → R u W2 → Q u W2.H) → sp [.ref x] W1.H Q E) : EvP ε (tMeth C m sp [] E (tVar i) tNil) σ W R := fun W1 g1 Q k => by
  have mm := g1.md.mut hS hh hb
  exact ⟨_, hd, x, dx, fs, rfl, mm.1, hl, hs W1 g1 Q k⟩
/-! ### targets -/
theorem gt_t3 {j1 j2 j3 : Nat} {p : T3 α β γ} {v : V} {Q : SS → Hp → Prop} (r : rep K W.B v p) (k : ∀ v1 v2 v3, rep K W.B v1 p.a → rep K W.B v2 p.b → rep K W.B v3 p.c → Q (((σ.set j1 (some v1)).set j2 (some v2)).set j3 (some v3)) W.H) : gTup K 3 (gCons (gName j1) (gCons (gName j2) (gCons (gName j3) gNil))) v σ W.H Q := by
  obtain ⟨a, x, y, z, e, h, r1, r2, r3⟩ := r
  exact ⟨a, [x, y, z], e, SqT.of (W.sub.et h), rfl, x, [y, z], rfl, y, [z], rfl, z, [], rfl, rfl, k x y z r1 r2 r3⟩
theorem gt_t4 {j1 j2 j3 j4 : Nat} {p : T4 α β γ δ} {v : V} {Q : SS → Hp → Prop} (r : rep K W.B v p) (k : ∀ v1 v2 v3 v4, rep K W.B v1 p.a → rep K W.B v2 p.b → rep K W.B v3 p.c → rep K W.B v4 p.d → Q ((((σ.set j1 (some v1)).set j2 (some v2)).set j3 (some v3)).set j4 (some v4)) W.H) : gTup K 4 (gCons (gName j1) (gCons (gName j2) (gCons (gName j3) (gCons (gName j4) gNil)))) v σ W.H Q := by
  obtain ⟨a, x, y, z, w, e, h, r1, r2, r3, r4⟩ := r
  exact ⟨a, [x, y, z, w], e, SqT.of (W.sub.et h), rfl, x, [y, z, w], rfl, y, [z, w], rfl, z, [w], rfl, w, [], rfl, rfl, k x y z w r1 r2 r3 r4⟩
theorem gt_p2 {j1 j2 : Nat} {p : α × β} {v : V} {Q : SS → Hp → Prop} (r : rep K W.B v p) (k : ∀ v1 v2, rep K W.B v1 p.1 → rep K W.B v2 p.2 → Q ((σ.set j1 (some v1)).set j2 (some v2)) W.H) : gPair K j1 j2 v σ W.H Q := by
  obtain ⟨a, x, y, e, h, r1, r2⟩ := r
  exact ⟨a, [x, y], e, SqT.of (W.sub.et h), rfl, x, [y], rfl, y, [], rfl, rfl, k x y r1 r2⟩
theorem gt_u2 {j1 j2 : Nat} {x y : α} {v : V} {Q : SS → Hp → Prop} (r : rep K W.B v [x, y]) (k : ∀ v1 v2, rep K W.B v1 x → rep K W.B v2 y → Q ((σ.set j1 (some v1)).set j2 (some v2)) W.H) : gUnl K 2 (gCons (gName j1) (gCons (gName j2) gNil)) v σ W.H Q := by
  obtain ⟨a, vs, e, h, r⟩ := r
  cases r with
  | cons r1 r =>
    cases r with
    | cons r2 r =>
      cases r
      exact ⟨a, _, e, SqL.of (W.sub.el h), rfl, _, _, rfl, _, _, rfl, rfl, k _ _ r1 r2⟩
theorem ev_t4 {x : α} {y : β} {z : γ} {w : δ} (ha : EvR ε K ta σ W x) (hb : EvR ε K tb σ W y) (hc : EvR ε K tc σ W z) (hd : EvR ε K td σ W w) : EvR ε K (tTup (tCons ta (tCons tb (tCons tc (tCons td tNil))))) σ W (T4.mk x y z w) := fun W1 g1 Q k =>
  ha W1 g1 _ fun a W2 g2 ra => hb W2 (g1.trans g2) _ fun b W3 g3 rb => hc W3 ((g1.trans g2).trans g3) _ fun c W4 g4 rc => hd W4 (((g1.trans g2).trans g3).trans g4) _ fun e W5 g5 re => ⟨Evl.sz_of (by show 4 ≤ 100000; decide), fun p hp =>
    k _ (W5.add p (.tup [a, b, c, e])) ((((g2.trans g3).trans g4).trans g5).and (W5.grow_add hp)) ⟨p, a, b, c, e, rfl, upd_same, rep_g (W5.grow_add hp) (rep_s g5 (rep_s g4 (rep_s g3 ra))), rep_g (W5.grow_add hp) (rep_s g5 (rep_s g4 rb)), rep_g (W5.grow_add hp) (rep_s g5 rc), rep_g (W5.grow_add hp) re⟩⟩
/-- an item of a tuple of four -/
theorem ro_ixQ {p : T4 α β γ δ} : RO K (rIxT K) p (0 : Int) p.a ∧ RO K (rIxT K) p (1 : Int) p.b ∧ RO K (rIxT K) p (2 : Int) p.c ∧ RO K (rIxT K) p (3 : Int) p.d := by
  refine ⟨ro_val fun v u W1 rv ru Q k => ?_, ro_val fun v u W1 rv ru Q k => ?_, ro_val fun v u W1 rv ru Q k => ?_, ro_val fun v u W1 rv ru Q k => ?_⟩ <;>
  · obtain ⟨a, x, y, z, w, e, h, r1, r2, r3, r4⟩ := rv
    exact ⟨a, [x, y, z, w], _, _, e, ru, SqT.of (W1.sub.et h), rfl, k _ (by first | exact r1 | exact r2 | exact r3 | exact r4)⟩
/-- list(range(a, b)) -/
theorem ev_lstRg {a b : Int} (ha : EvR ε K ta σ W a) (hb : EvR ε K tb σ W b) (h : RgOk a b) : EvR ε K (tLstRg (tRg2 ta tb)) σ W (rng a (b - a).toNat) := fun W1 g1 Q k =>
  ha W1 g1 _ fun v W2 g2 ra => hb W2 (g1.trans g2) _ fun u W3 g3 rb => ⟨a, b, ra, rb, h, fun p hp => k _ (W3.add p _) ((g2.trans g3).and (W3.grow_add hp)) ⟨p, _, rfl, upd_same, by
    have : rgV a b = (rng a (b - a).toNat).map V.int := by
      unfold rgV rng
      rw [List.map_map]
      rfl
    rw [this]
    exact int_reps _⟩⟩
/-! ### lists that change -/
structure LMut (K : Fg) (W : Wd) (d : Addr) (xs : List α) : Prop where
  b : W.B d = none
  ex : ∃ vs, W.H d = some (.lst vs) ∧ Reps K W.B vs xs
theorem LMut.g {xs : List α} (m : LMut K W d xs) (g : Md S W W') (h : d ∉ S) : LMut K W' d xs := by
  obtain ⟨vs, e, r⟩ := m.ex
  have := g.mut h e m.b
  exact ⟨this.2, vs, this.1, Reps.mono (exExt g.b) r⟩
theorem LMut.gr {xs : List α} (m : LMut K W d xs) (g : Grow W W') : LMut K W' d xs := m.g g (by simp)
theorem LMut.nt {xs : List α} (m : LMut K W d xs) : Nt W.H d := by
  obtain ⟨vs, e, _⟩ := m.ex
  exact .l e
/-- xs.append(y) -/
theorem s_append {D : Ends} {xs : List α} {y : α} (hd : σ[i]? = some (some (.ref d))) (m : LMut K W d xs) (h : EvR pur K te σ W y) (hl : xs.length < 100000) (q : ∀ W', Md [d] W W' → On W W' → LMut K W' d (xs ++ [y]) → D.nx σ W'.H) : tDrop (tBM K "list" rAppend (tVar i) (tCons te tNil)) D σ W.H := by
  obtain ⟨vs, e, r⟩ := m.ex
  refine ⟨_, hd, .inl ⟨rfl, vs, SqL.of e⟩, h W (.start trivial) _ fun v W1 g1 rv => ?_⟩
  obtain ⟨vs1, e1, r1⟩ := (m.gr g1.pure).ex
  have b1 := (m.gr g1.pure).b
  exact ⟨d, vs1, v, rfl, rfl, e1, by rw [Reps.len r1]; exact Evl.sz_lt hl, q (W1.put d _ b1) ((Grow.s g1.pure).trans (md_put b1)) (g1.on.trans (md_put b1).on) ⟨b1, _, upd_same, Reps.snoc r1 rv⟩⟩
theorem q_append {D : Ends} {tz : TS} {xs : List α} {y : α} (hd : σ[i]? = some (some (.ref d))) (m : LMut K W d xs) (h : EvR pur K te σ W y) (hl : xs.length < 100000) (q : ∀ W', Md [d] W W' → On W W' → LMut K W' d (xs ++ [y]) → tz D σ W'.H) : tSeq (tDrop (tBM K "list" rAppend (tVar i) (tCons te tNil))) tz D σ W.H := s_append (D := { D with nx := tz D }) hd m h hl q
/-- it shall stay -/
theorem LMut.fix {xs : List α} (m : LMut K W d xs) : ∃ o, ∃ h : W.H d = some o, rep K (W.fix d o h).B (.ref d) xs ∧ Ex W.B (W.fix d o h).B ∧ ∀ W0 S, Md S W0 W → W0.H d = none → Md S W0 (W.fix d o h) := by
  obtain ⟨vs, e, r⟩ := m.ex
  exact ⟨_, e, ⟨d, vs, rfl, upd_same, Reps.mono (exExt (ex_fix e m.b)) r⟩, ex_fix e m.b, fun W0 S g f => md_fix g e m.b f⟩
/-- a list that changes, read -/
theorem LMut.rv {xs : List α} (m : LMut K W d xs) : ∃ vs, W.H d = some (.lst vs) ∧ Reps K W.B vs xs := m.ex
end
/-! ### {k: v for x in ..} -/
section
variable {α β κ : Type} [Py α] [Py β] [DecidableEq κ] [PyKey κ] {K : Fg} {W : Wd} {σ : SS} {ε : Ef} {tk tv : TE} {wi : TI}
theorem ed_dcN {j : Nat} {xs : List α} {f : α → κ} {g : α → β} (hi : EvI ε K wi σ W xs) (hk : ∀ x v W', x ∈ xs → Stp ε W W' → rep K W'.B v x → EvP ε tk ((wipe σ [j]).set j (some v)) W' (fun u _ => u = kV (PyKey.key (f x)))) (he : ∀ x v W', x ∈ xs → Stp ε W W' → rep K W'.B v x → EvR ε K tv ((wipe σ [j]).set j (some v)) W' (g x)) (hl : xs.length < 100000) :
    ∀ W1, Stp ε W W1 → ∀ Q : VK, (∀ p W2, Stp ε W1 W2 → W1.H p = none → DMut K W2 p (xs.foldl (fun kv x => kput kv (f x) (g x)) []) → Q (.ref p) W2.H) → tDc wi (gName j) tYes tk tv [j] σ W1.H Q := fun W1 g1 Q k =>
  hi W1 g1 _ fun J S W2 g2 s2 sg src D hD => by
    have DS : D ∉ ε.S := Ef.off g2.i hD
    refine ⟨fun i m H => m = xs.length - i ∧ i ≤ xs.length ∧ ∃ Wi, Wi.H = H ∧ Stp ε W2 Wi ∧ DMut K Wi D ((xs.take i).foldl (fun kv x => kput kv (f x) (g x)) []) ∧ ((xs.take i).foldl (fun kv x => kput kv (f x) (g x)) []).length ≤ i, ⟨xs.length, rfl, Nat.zero_le _, W2.put D (.dK []) (W2.free hD), rfl, ⟨md_mut (.refl _ _) (W2.free hD) hD, i_put DS g2.i _⟩, DMut.new W2 hD, Nat.le_refl _⟩, ?_⟩
    rintro i m H ⟨rfl, hle, Wi, rfl, gi, dm, dl⟩
    have si : S Wi := sg _ _ s2 gi
    by_cases hlt : i < xs.length
    · refine .inr ⟨src.go i Wi si hlt, fun H => i + 1 ≤ xs.length ∧ ∃ Wi, Wi.H = H ∧ Stp ε W2 Wi ∧ DMut K Wi D ((xs.take (i + 1)).foldl (fun kv x => kput kv (f x) (g x)) []) ∧ ((xs.take (i + 1)).foldl (fun kv x => kput kv (f x) (g x)) []).length ≤ i + 1, fun H' h' => ⟨_, by omega, rfl, h'⟩, fun v H'' hy => ?_⟩
      obtain ⟨x, W3, rfl, g3', hx, r⟩ := src.yld i Wi v H'' si hlt hy
      have g3 : Stp ε Wi W3 := gi.rf.and g3'
      have hm := List.mem_of_getElem? hx
      have G3 := ((g1.trans g2).trans gi).trans g3
      refine ⟨wipe1, et_yes (ε := ε) W3 g3.rf _ fun W4 g4 => ?_⟩
      rw [if_pos rfl]
      have G4 := G3.trans g4
      refine hk x v W4 hm G4 (rep_s g4 r) W4 g4.rf _ fun u W5 g5 eu => he x v W5 hm (G4.trans g5) (rep_s g5 (rep_s g4 r)) W5 g5.rf _ fun w W6 g6 rw' => ?_
      have G6 : Stp ε Wi W6 := ((g3.trans g4).trans g5).trans g6
      obtain ⟨ks, e6, r6⟩ := (dm.s G6 DS).ex
      have b6 := (dm.s G6 DS).b
      have tk' : xs.take (i + 1) = xs.take i ++ [x] := by rw [List.take_add_one, hx]; rfl
      have ef : (xs.take (i + 1)).foldl (fun kv x => kput kv (f x) (g x)) [] = kput ((xs.take i).foldl (fun kv x => kput kv (f x) (g x)) []) (f x) (g x) := by rw [tk', List.foldl_append]; rfl
      refine ⟨ks, PyKey.key (f x), eu, e6, by rw [KReps.len r6]; exact Evl.sz_lt (by omega), hlt, W6.put D _ b6, rfl, ⟨md_mut (gi.trans G6).md b6 hD, i_put DS G6.i _⟩, ⟨b6, _, upd_same, ?_⟩, ?_⟩
      · rw [ef]
        exact KReps.put r6 (f x) rw'
      · rw [ef]
        have := kput_len ((xs.take i).foldl (fun kv x => kput kv (f x) (g x)) []) (f x) (g x)
        omega
    · have e : i = xs.length := by omega
      subst e
      rw [List.take_length] at dm
      exact .inl ⟨src.stop _ Wi si (Nat.le_refl _), k D Wi (g2.trans gi) (by
        cases e : W1.H D with
        | none => rfl
        | some o => exact absurd hD (g2.md.d D (by rw [e]; exact fun z => by cases z))) dm⟩
end
/-- xs = xs + ys, xs a list that changes: a new one that may change -/
theorem s_catM {α : Type} [Py α] {K : Fg} {σ : SS} {W : Wd} {D : Ends} {te : TE} {i : Nat} {d : Addr} {xs ys : List α} (hd : σ[i]? = some (some (.ref d))) (m : LMut K W d xs) (h : EvR pur K te σ W ys) (hl : xs.length + ys.length ≤ 100000)
    (q : ∀ d' W', Grow W W' → W.H d' = none → LMut K W' d' (xs ++ ys) → D.nx (σ.set i (some (.ref d'))) W'.H) : tAsg (tOp rCat (tVar i) te) (gName i) D σ W.H := ⟨_, hd, h W (.start trivial) _ fun v W1 g1 ⟨b, us, e, s, r⟩ => by
  obtain ⟨vs, e1, r1⟩ := (m.gr g1.pure).ex
  refine ⟨d, b, vs, us, rfl, e, e1, W1.sub.el s, Evl.sz_of (by rw [Reps.len r1, Reps.len r]; exact hl), fun p hp => q p (W1.put p _ (W1.free hp)) (g1.pure.trans (W1.grow_put hp)) ?_ ⟨W1.free hp, _, upd_same, Reps.app r1 r⟩⟩
  cases z : W.H p with
  | none => rfl
  | some o => exact absurd hp (g1.md.d p (by rw [z]; exact fun y => by cases y))⟩
theorem q_asgG {α : Type} [Py α] {ε : Ef} {K : Fg} {σ : SS} {W : Wd} {D : Ends} {te : TE} {g : TG} {tz : TS} {x : α} (h : EvR ε K te σ W x) (s : ε.I W) (k : ∀ v W', Stp ε W W' → rep K W'.B v x → g v σ W'.H fun σ2 H2 => tz D σ2 H2) : tSeq (tAsg te g) tz D σ W.H := h W (.start s) _ k
theorem EvJ.toIs {α : Type} [Py α] {ε : Ef} {K : Fg} {wi : TI} {σ : SS} {W : Wd} {xs ys : List α} (h : EvJ ε K wi σ W xs) (e : xs = ys) : EvJ ε K wi σ W ys := e ▸ h
end B
/-! B: a row that is a list or a tuple, walked; sorted(set(tuple)); a tuple's steps -/
namespace BY
open PySem PySem.Spec PyProof.Rows L2
section
variable {prog : Program} {w : World} {A : Around} {E : Value → Shared → Prop} {s : Shared} {a : Addr}
theorem sorted_setO {S : Int → Bool} {n : Nat} {Q : Value → Shared → Prop} (R : SetR w s.heap a S n) (hh : A.handled = none) (hz0 : n ≤ 4000)
    (hQ : ∀ s' p (out : List Value) (c : Nat) (ns : List Int), (∀ b o, s.heap.get? b = some o → s'.heap.get? b = some o) → s'.gens = s.gens → s'.os = s.os → s.heap.objs.size ≤ p →
      s'.heap.get? p = some (seqObj "list" out.toArray c) → IntsAre out ns → ns.Pairwise (· < ·) → (∀ k, k ∈ ns ↔ S k = true) → ns.length = n → Q (.ref p) s') :
    wpAny (model prog w) A (call (.builtin "sorted") [.ref a]) Q E s := by
  obtain ⟨o, es, ep, t, ho, hex, hd, g, nd, hm, hb, hf, hn, hr, hl⟩ := R
  refine Calls.call_function_entry kind_sorted plain_sorted entry_sorted (args_sorted1 _) ?_
  unfold Builtin.«sorted»
  refine wpAny_bind (m := checkCount "sorted" 1 1 _) (wpAny_pure ?_)
  refine wpAny_bind (collect_set (A := A.in1) hh ⟨o, ho, hex.1, hd⟩ hf hb hr hl fun s1 vs k1 hz g1 o1 pm => ?_)
  have hvl : vs.length = n := by rw [pm.length_eq, List.length_map, Array.length_toList]; exact hn
  have hI : IntsAre vs (vs.map Builtin.Re.reRawOf) := ints_of vs fun v hv => by
    obtain ⟨e, he, q⟩ := List.mem_map.mp (pm.mem_iff.mp hv)
    obtain ⟨k, tk, h1, _⟩ := g e he
    exact ⟨k, tk, by rw [← q]; exact h1⟩
  have pk : (vs.map Builtin.Re.reRawOf).Perm (es.toList.map keyOf) := by
    have q := pm.map Builtin.Re.reRawOf
    rw [List.map_map] at q
    exact q
  have hzl : vs.length ≤ sizeLine := by rw [hvl, sizeLine_eq]; omega
  refine wpAny_bind (wpAny_newList ?_ hzl)
  have hoL : (s1.heap.push (seqObj "list" vs.toArray 0)).get? s1.heap.objs.size = some (seqObj "list" vs.toArray 0) := Heap.get?_push_size _ rfl
  refine wpAny_bind (wpAny_holding (wpAny_call_entry slot_list_sort ⟨_, hoL, rfl⟩ entry_list_sort (SrtO.list_sort_ord SrtO.swo_int hoL hzl (fun h2 => SrtO.ints_sortable hI h2) fun out hs hb' => ⟨_, rfl, ?_⟩) (args_list_sort _)))
  obtain ⟨c, hc⟩ := sortedHeap_at (vs := vs) (out := out.toArray) hoL
  obtain ⟨a1, a2, a3⟩ := SrtO.ints_out hI hs hb'
  have pn : (out.map SrtO.iv).Perm (es.toList.map keyOf) := a2.trans pk
  refine wpAny_pure ⟨_, rfl, hQ _ s1.heap.objs.size out c (out.map SrtO.iv) (fun b u e => ?_) g1 o1 hz hc a1 (lt_of_le_nodup _ a3 (pn.nodup_iff.mpr nd)) (fun k => by rw [pn.mem_iff, ← hm k]) ?_⟩
  · have q := k1 b u e
    have hlt := Heap.lt_size q
    show (sortedHeap (s1.heap.push (seqObj "list" vs.toArray 0)) s1.heap.objs.size vs out.toArray).get? b = some u
    rw [sortedHeap_old (Nat.ne_of_lt hlt) (by rw [size_push']; exact Nat.lt_succ_of_lt hlt)]
    exact Heap.get?_push_of_some _ q
  · rw [pn.length_eq, List.length_map, Array.length_toList]; exact hn
end
section
variable {X : Cx} {tg : Expr}
/-- sorted(set(t)), a tuple of ints -/
def tSortSet (K : PySem.W.Frag) (ta : TE) : TE := fun σ H Q => ta σ H fun x H1 => ∃ (l : Addr) (ns : List Int), x = .ref l ∧ SqT K H1 l (ns.map V.int) ∧ ns.length ≤ 4000 ∧
  ∀ (ns' : List Int) (p : Addr), ns'.Pairwise (· < ·) → (∀ k, k ∈ ns' ↔ k ∈ ns) → H1 p = none → Q (.ref p) (upd H1 p (.lst (ns'.map V.int)))
theorem set_sorted {pins : List (Addr × Obj)} {σ : L2.St} {H1 : Hp} {s2 : Shared} {b : Addr} {ns : List Int} {c : Nat} {Q : VK} (I2 : L2.Inv X pins σ H1 s2) (hS : SetR X.w s2.heap b (fun j => decide (j ∈ ns)) c) (hc4 : c ≤ 4000) (hc : X.calm = true)
    (q1 : ∀ (ns' : List Int) (p : Addr), ns'.Pairwise (· < ·) → (∀ k, k ∈ ns' ↔ k ∈ ns) → H1 p = none → Q (.ref p) (upd H1 p (.lst (ns'.map V.int)))) :
    wpAny (model X.prog X.w) X.A (call (.builtin "sorted") [.ref b]) (EP X pins σ Q) X.xe s2 := by
  refine sorted_setO hS (I2.ok.hd hc) hc4 fun s' p out c2 ns' k g o hp hg' hi hs hm' hl' => ?_
  have hlen' : (ns'.map V.int).length ≤ sizeLine := by rw [List.length_map, hl', sizeLine_eq]; omega
  have hn : H1 p = none := I2.hok.fresh hp
  have J : Inv X pins σ (upd H1 p (.lst (ns'.map V.int))) { s2 with heap := s'.heap, gens := s'.gens, drawn := s'.drawn, toks := s'.toks } :=
    I2.call (ch := []) (Un.laid k hp hn) (I2.hok.laid k hp ⟨hlen', out, c2, vals_of_ints hi, hg'⟩) (by rw [g]; exact I2.bare) (fun _ z => nomatch z)
  have e : s' = { s2 with heap := s'.heap, gens := s'.gens, drawn := s'.drawn, toks := s'.toks } := by
    cases s'
    cases s2
    cases o
    rfl
  rw [e]
  exact ⟨.ref p, _, J, rfl, q1 ns' p hs (fun k => by rw [hm' k, decide_eq_true_eq]) hn⟩
theorem pe_sortSet {a : Expr} {ta : TE} {p p2 q pos : Pos} (hg : Gl X "sorted") (hm : X.mg "sorted" = none) (hg2 : Gl X "set") (hm2 : X.mg "set" = none) (ha : PE X a ta) (hc : X.calm = true := by rfl)
    (na : starEach [a] X.env = (false, eval a X.env) :: starEach [] X.env := by rfl) : PE X (.Call (.Name "sorted" p) [.Call (.Name "set" p2) [a] [] q] [] pos) (tSortSet X.K ta) := by
  refine ⟨fun pins s σ H Q I h => ?_⟩
  refine Call_ (ld_blt I hg hm (show bootBuiltins "sorted" = some (.builtin "sorted") by decide +kernel) ?_)
  refine PyProof.Rows.callWith_builtin1 (PyProof.Rows.args_cons ?_ rfl) rfl rfl
  refine Call_ (ld_blt I hg2 hm2 boot_set ?_)
  refine PyProof.Rows.callWith_type1 (PyProof.Rows.args_cons (thn (ha.run pins s σ H _ I h) fun v s1 ⟨x, H1, I1, r1, q1⟩ => PyProof.Rows.args_nil ?_) na) na rfl
  obtain ⟨l, ns, rfl, hq, hl, q1⟩ := q1
  cases r1
  obtain ⟨its, r, pl, hz⟩ := I1.tuple hq
  have hlen : its.length = ns.length := by rw [← r.length, List.length_map]
  refine call_set_tupI ns (I1.ok.hd hc) (items := its.toArray) ?_ (by simpa using r.ints) (by unfold scanBound; omega) fun h' tk c hS hc' hk => ?_
  · exact pl
  refine PyProof.Rows.args_nil ?_
  have I2 : Inv X pins σ H1 { s1 with heap := h', toks := tk } := I1.kept fun b o e => hk b o e
  exact set_sorted I2 hS (by omega) hc q1
/-- a row, a list or a tuple, walked -/
def iSeq (K : PySem.W.Frag) (tl : TE) : TI := fun σ H R => iList K tl σ H R ∨ iTup K tl σ H R
theorem pi_seq {l : Expr} {tl : TE} (hl : PE X l tl) : PI X tg l (iSeq X.K tl) := by
  refine ⟨fun pins s σ H R I h => ?_⟩
  rcases h with h | h
  · exact (pi_list hl).run pins s σ H R I h
  · exact (pi_tup hl).run pins s σ H R I h
/-! ### t[lo:hi:k] -/
theorem vals_pick {xs : List V} {us : List Value} (r : Vals xs us) : ∀ l : List Nat, Vals (l.filterMap fun m => xs[m]?) (l.filterMap fun m => us.toArray[m]?)
  | [] => .nil
  | m :: l => by
    have ih := vals_pick r l
    cases hx : xs[m]? with
    | none =>
      have hu := r.none_of hx
      rw [List.filterMap_cons_none hx, List.filterMap_cons_none (by simpa using hu)]
      exact ih
    | some x =>
      obtain ⟨u, hu, ru⟩ := r.get hx
      rw [List.filterMap_cons_some hx, List.filterMap_cons_some (b := u) (by simpa using hu)]
      exact .cons ru ih
/-- the places of [lo:hi:k] among n -/
def stepIx (lo hi : Option Int) (k : Int) (n : Nat) : List Nat :=
  (List.range (Builtin.Slice.slicePlaces (Builtin.Slice.sliceAdjust lo hi k n).1 (Builtin.Slice.sliceAdjust lo hi k n).2 k)).map fun (m : Nat) => ((Builtin.Slice.sliceAdjust lo hi k n).1 + (m : Int) * k).toNat
def tTupStep (K : PySem.W.Frag) (te : TE) (lo hi : Option Int) (k : Int) : TE := fun σ H Q => te σ H fun x H1 => ∃ a xs, x = .ref a ∧ SqT K H1 a xs ∧ (stepIx lo hi k xs.length).length ≤ sizeLine ∧
  ∀ p, H1 p = none → Q (.ref p) (upd H1 p (.tup ((stepIx lo hi k xs.length).filterMap fun m => xs[m]?)))
/-- a part of a slice that is left out or is a number in the text -/
structure PCn (X : Cx) (e : Option Expr) (o : Option Int) : Prop where
  run : ∀ (pins : List (Addr × Obj)) (s : Shared) (σ : L2.St) (H : Hp) (R : Value → Shared → Prop), Inv X pins σ H s → (∀ u, IsPart u o → ∀ s', Inv X pins σ H s' → R u s') → wpAny (model X.prog X.w) X.A (evalPart e X.env) R X.xe s
theorem pc_none : PCn X none none := ⟨fun pins s σ H R I h => thn (po_none.run pins s σ H (fun o H2 => o = none ∧ H2 = H) I ⟨rfl, rfl⟩) fun vl s2 ⟨l, H2, I2, pl, el, e2⟩ => by
  subst el e2
  exact h _ pl _ I2⟩
theorem pc_pos {i : Nat} {k : Nat} {p : Pos} : PCn X (some (.Constant (.int i) k p)) (some i) := ⟨fun pins s σ H R I h => by
  have hst : PO X (some (.Constant (.int i) k p)) (tPart (tC (.int i))) := po_some pe_int
  exact thn (hst.run pins s σ H (fun o H2 => o = some (i : Int) ∧ H2 = H) I ⟨i, rfl, rfl, rfl⟩) fun vl s2 ⟨l, H2, I2, pl, el, e2⟩ => by
    subst el e2
    exact h _ pl _ I2⟩
theorem pc_neg {i : Nat} {k : Nat} {p p2 : Pos} : PCn X (some (.UnaryOp .USub (.Constant (.int i) k p) p2)) (some (-(i : Int))) := ⟨fun pins s σ H R I h => by
  have hst : PO X (some (.UnaryOp .USub (.Constant (.int i) k p) p2)) (tPart (tUn (rU fun i => .int (-i)) (tC (.int i)))) := po_some (pe_un un_neg pe_int)
  exact thn (hst.run pins s σ H (fun o H2 => o = some (-(i : Int)) ∧ H2 = H) I ⟨i, rfl, _, rfl, rfl, rfl⟩) fun vl s2 ⟨l, H2, I2, pl, el, e2⟩ => by
    subst el e2
    exact h _ pl _ I2⟩
section
variable {prog : Program} {w : World} {A : Around} {E : Value → Shared → Prop} {s : Shared}
theorem sliceApplied_step {sl : Addr} {vl vu vs : Value} {lo hi : Option Int} {k : Int} {n : Nat} {Q : Int × Int × Nat → Shared → Prop} (hs : s.heap.IsSliceOf sl vl vu vs) (pl : IsPart vl lo) (pu : IsPart vu hi) (ps : IsPart vs (some k)) (h0 : k ≠ 0)
    (h : Q ((Builtin.Slice.sliceAdjust lo hi k n).1, k, Builtin.Slice.slicePlaces (Builtin.Slice.sliceAdjust lo hi k n).1 (Builtin.Slice.sliceAdjust lo hi k n).2 k) s) : wpAny (model prog w) A (Builtin.Slice.sliceApplied (.ref sl) (pure (n : Int))) Q E s := by
  obtain ⟨os, hos, hcs, hds⟩ := id hs
  unfold Builtin.Slice.sliceApplied Builtin.Slice.sliceFields
  refine wpAny_bind (wpAny_bind (wpAny_field hos hds (x := vl) rfl (wpAny_bind (wpAny_field hos hds (x := vu) rfl (wpAny_bind (wpAny_field hos hds (x := vs) rfl (wpAny_pure ?_)))))))
  refine wpAny_bind (HT.slicePart_ ps ?_)
  show wpAny _ _ (if (k == 0) = true then _ else _) _ _ s
  rw [if_neg (by simpa using h0)]
  refine wpAny_bind (HT.slicePart_ pl (wpAny_bind (HT.slicePart_ pu (wpAny_bind (wpAny_pure ?_)))))
  exact wpAny_pure h
theorem getItem_tuple_step {t sl : Addr} {items : Array Value} {vl vu vs : Value} {lo hi : Option Int} {k : Int} {Q : Value → Shared → Prop} (ht : IsTup s.heap t items) (hs : s.heap.IsSliceOf sl vl vu vs) (pl : IsPart vl lo) (pu : IsPart vu hi) (ps : IsPart vs (some k)) (h0 : k ≠ 0) (h1 : k ≠ 1)
    (h : Q (.ref s.heap.objs.size) { s with heap := s.heap.push { cls := .type "tuple", data := .seq ((stepIx lo hi k items.size).filterMap fun m => items[m]?).toArray } })
    (hsz : (stepIx lo hi k items.size).length ≤ sizeLine) : wpAny (model prog w) A (getItem (.ref t) (.ref sl)) Q E s := by
  have htake : sizeOk (.seq ((stepIx lo hi k items.size).filterMap fun m => items[m]?).toArray) := by
    show ((stepIx lo hi k items.size).filterMap fun m => items[m]?).toArray.size ≤ sizeLine
    rw [List.size_toArray]
    exact Nat.le_trans (List.length_filterMap_le _ _) hsz
  obtain ⟨os, hos, hcs, hds⟩ := id hs
  have hTs : s.TypeIs (.ref sl) "slice" := ⟨os, hos, hcs⟩
  unfold getItem
  try with_reducible refine wpAny_holding ?_
  first | refine wpAny_bind (wpAny_pure ?_) | skip
  refine wpAny_bind (wpAny_sequenceKey ht.typeIs (by decide) ?_)
  refine wpAny_bind (wpAny_callSpecial?_slot (name := Str.ofString "__getitem__") ht.typeIs PyProof.Rows.slot_tuple_getitem
    (wpAny_call_entry PyProof.Rows.slot_tuple_getitem ht.typeIs entry_tuple_getitem ?_ (args_tuple_getitem _ _)))
  show wpAny _ _ (Builtin.Tuple.tupleItemsOf (.ref t) >>= _) _ _ s
  refine wpAny_bind (tupleItemsOf_ ht ?_)
  refine wpAny_bind (wpAny_typeOf hTs ?_)
  rw [if_pos (by decide)]
  refine wpAny_bind (sliceApplied_step hs pl pu ps h0 ?_)
  have hno : ∀ a b : Bool, ¬ ((a && k == 1 && b) = true) := fun a b q => by
    rw [Bool.and_eq_true, Bool.and_eq_true] at q
    exact h1 (eq_of_beq q.1.2)
  show wpAny _ _ (if ((Builtin.Slice.sliceAdjust lo hi k items.size).1 == 0 && k == 1 && Builtin.Slice.slicePlaces (Builtin.Slice.sliceAdjust lo hi k items.size).1 (Builtin.Slice.sliceAdjust lo hi k items.size).2 k == items.size) = true then _ else _) _ _ s
  rw [if_neg (hno _ _)]
  have e : (List.range (Builtin.Slice.slicePlaces (Builtin.Slice.sliceAdjust lo hi k items.size).1 (Builtin.Slice.sliceAdjust lo hi k items.size).2 k)).filterMap (fun (m : Nat) => items[((Builtin.Slice.sliceAdjust lo hi k items.size).1 + (m : Int) * k).toNat]?)
      = (stepIx lo hi k items.size).filterMap fun m => items[m]? := by
    unfold stepIx
    rw [List.filterMap_map]
    rfl
  rw [e]
  first
    | exact wpAny_bind (m := Builtin.Tuple.tupleExact _) (wpAny_newObj_type (wpAny_pure ⟨_, rfl, wpAny_pure h⟩) htake)
    | exact wpAny_bind (m := Builtin.Tuple.tupleExact _) (wpAny_newObj_type (wpAny_bind (wpAny_pure (wpAny_pure ⟨_, rfl, wpAny_pure h⟩))) htake)
    | exact wpAny_bind (wpAny_bind (m := Builtin.Tuple.tupleExact _) (wpAny_newObj_type (wpAny_pure (wpAny_pure ⟨_, rfl, wpAny_pure h⟩)) htake))
    | exact wpAny_bind (wpAny_bind (m := Builtin.Tuple.tupleExact _) (wpAny_newObj_type (wpAny_pure ⟨_, rfl, wpAny_pure h⟩) htake))
end
theorem pe_tupStep {e : Expr} {te : TE} {lo hi : Option Expr} {st : Expr} {ol oh : Option Int} {k : Int} {p3 pos : Pos} (he : PE X e te) (hl : PCn X lo ol) (hh : PCn X hi oh) (hk : PCn X (some st) (some k)) (h0 : k ≠ 0) (h1 : k ≠ 1) : PE X (.Subscript e (.Slice lo hi (some st) p3) pos) (tTupStep X.K te ol oh k) := by
  refine ⟨fun pins s σ H Q I h => ?_⟩
  refine Subscript_ (thn (he.run pins s σ H _ I h) fun v s1 ⟨x, H1, I1, r1, q1⟩ => ?_)
  obtain ⟨a, xs, ex, hx, hsz, q⟩ := q1
  subst ex
  cases r1
  refine wpAny_Slice (hl.run pins s1 σ H1 _ I1 fun vl pl s2 I2 => hh.run pins s2 σ H1 _ I2 fun vu pu s3 I3 => hk.run pins s3 σ H1 _ I3 fun vs ps s4 I4 => ?_)
  have I5 : Inv X pins σ H1 { s4 with heap := s4.heap.push { cls := .type "slice", data := .fields #[vl, vu, vs] } } := I4.kept (t' := s4.toks) fun b ob q => Heap.get?_push_of_some _ q
  obtain ⟨its, r, ht, hz⟩ := I5.tuple hx
  have hlen : its.toArray.size = xs.length := by rw [List.size_toArray]; exact r.length.symm
  show wpAny (model X.prog X.w) X.A (subscriptTail e (.Slice lo hi (some st) p3) (.ref a) (.ref s4.heap.objs.size)) (EP X pins σ Q) X.xe { s4 with heap := s4.heap.push { cls := .type "slice", data := .fields #[vl, vu, vs] } }
  refine tail_any (ops := [.ref a, .ref s4.heap.objs.size]) ht.typeIs PyProof.Rows.slot_tuple_getitem.lookup ?_ (by with_unfolding_all rfl)
  refine getItem_tuple_step ht (Heap.IsSliceOf.new _ vl vu vs) pl pu ps h0 h1 ?_ (by rw [hlen]; exact hsz)
  rw [hlen]
  refine ⟨.ref _, _, I5.laid (t' := s4.toks) (o := .tup ((stepIx ol oh k xs.length).filterMap fun m => xs[m]?)) (fun b ob q => Heap.get?_push_of_some _ q) (Nat.le_refl _) ?_, rfl, q _ (I5.hok.fresh (Nat.le_refl _))⟩
  exact ⟨Nat.le_trans (List.length_filterMap_le _ _) hsz, _, vals_pick r _, IsTup.new _ _⟩
end
end BY
namespace B
open PySem L2
open PySem.W (Tup T3 T4 Datum DatumOrd)
open Evl (Ex)
section
variable {α β γ δ : Type} [Py α] [Py β] [Py γ] [Py δ] {K : Fg} {W W' : Wd} {σ : SS} {ε : Ef} {te ta tb tc td : TE}
theorem asc_uniq : ∀ {xs ys : List Int}, xs.Pairwise (· < ·) → ys.Pairwise (· < ·) → (∀ k, k ∈ xs ↔ k ∈ ys) → xs = ys
  | [], [], _, _, _ => rfl
  | [], y :: ys, _, _, h => absurd ((h y).mpr List.mem_cons_self) (by simp)
  | x :: xs, [], _, _, h => absurd ((h x).mp List.mem_cons_self) (by simp)
  | x :: xs, y :: ys, h1, h2, h => by
    obtain ⟨a1, a2⟩ := List.pairwise_cons.mp h1
    obtain ⟨b1, b2⟩ := List.pairwise_cons.mp h2
    have e : x = y := by
      have p := (h x).mp List.mem_cons_self
      have q := (h y).mpr List.mem_cons_self
      rcases List.mem_cons.mp p with p | p
      · exact p
      · rcases List.mem_cons.mp q with q | q
        · exact q.symm
        · have := b1 x p
          have := a1 y q
          omega
    subst e
    rw [asc_uniq a2 b2 fun k => ⟨fun m => ?_, fun m => ?_⟩]
    · rcases List.mem_cons.mp ((h k).mp (List.mem_cons_of_mem _ m)) with e | e
      · subst e; have := a1 _ m; omega
      · exact e
    · rcases List.mem_cons.mp ((h k).mpr (List.mem_cons_of_mem _ m)) with e | e
      · subst e; have := b1 _ m; omega
      · exact e
theorem ev_sortSetA {xs : Tup Int} (h : EvR ε K ta σ W xs) (hl : xs.items.length ≤ 4000) (hp : xs.items.Pairwise (· < ·)) : EvR ε K (BY.tSortSet K ta) σ W xs.items := fun W1 g1 Q k => h W1 g1 _ fun v W2 g2 ⟨a, vs, e, s, r⟩ => by
  have e2 := reps_int r
  subst e2
  refine ⟨a, xs.items, e, SqT.of (W2.sub.et s), hl, fun ns p hs hm hn => ?_⟩
  rw [asc_uniq hs hp hm]
  exact k _ (W2.add p _) (g2.and (W2.grow_add hn)) ⟨p, _, rfl, upd_same, Reps.mono (exExt (W2.grow_add hn).b) r⟩
theorem ei_seqL {xs : List α} (h : EvR ε K te σ W xs) : EvJ ε K (BY.iSeq K te) σ W xs := fun W1 g1 R k => .inl (ei_list h W1 g1 R k)
theorem ei_seqT {xs : Tup α} (h : EvR ε K te σ W xs) : EvJ ε K (BY.iSeq K te) σ W xs.items := fun W1 g1 R k => .inr (ei_tup h W1 g1 R k)
/-- a tuple of four, [::2] -/
theorem ev_stepA {p : T4 α β γ δ} (h : EvR ε K te σ W p) : EvR ε K (BY.tTupStep K te none none 2) σ W (p.a, p.c) := fun W1 g1 Q k => h W1 g1 _ fun v W2 g2 ⟨a, x, y, z, w, e, s, r1, r2, r3, r4⟩ => by
  refine ⟨a, _, e, SqT.of (W2.sub.et s), (by decide : (BY.stepIx none none 2 4).length ≤ sizeLine), fun p hp => ?_⟩
  have e2 : (BY.stepIx none none 2 [x, y, z, w].length).filterMap (fun m => [x, y, z, w][m]?) = [x, z] := by
    have : BY.stepIx none none 2 4 = [0, 2] := by decide
    show (BY.stepIx none none 2 4).filterMap _ = _
    rw [this]
    rfl
  rw [e2]
  exact k _ (W2.add p _) (g2.and (W2.grow_add hp)) ⟨p, x, z, rfl, upd_same, rep_g (W2.grow_add hp) r1, rep_g (W2.grow_add hp) r3⟩
/-- a tuple of four, [2::-2] -/
theorem ev_stepB {p : T4 α β α δ} (h : EvR ε K te σ W p) : EvR ε K (BY.tTupStep K te (some 2) none (-2)) σ W (Tup.mk [p.c, p.a]) := fun W1 g1 Q k => h W1 g1 _ fun v W2 g2 ⟨a, x, y, z, w, e, s, r1, r2, r3, r4⟩ => by
  refine ⟨a, _, e, SqT.of (W2.sub.et s), (by decide : (BY.stepIx (some 2) none (-2) 4).length ≤ sizeLine), fun p hp => ?_⟩
  have e2 : (BY.stepIx (some 2) none (-2) [x, y, z, w].length).filterMap (fun m => [x, y, z, w][m]?) = [z, x] := by
    have : BY.stepIx (some 2) none (-2) 4 = [2, 0] := by decide
    show (BY.stepIx (some 2) none (-2) 4).filterMap _ = _
    rw [this]
    rfl
  rw [e2]
  exact k _ (W2.add p _) (g2.and (W2.grow_add hp)) ⟨p, [z, x], rfl, upd_same, .cons (rep_g (W2.grow_add hp) r3) (.cons (rep_g (W2.grow_add hp) r1) .nil)⟩
theorem ro_rep {xs : List α} {n : Int} (h1 : 0 ≤ n) (h2 : n ≤ 1000) (hl : xs.length ≤ 100) : RO K rRep xs n (List.replicate n.toNat xs).flatten := fun v u W1 ⟨a, vs, e, s, r⟩ ru Q k =>
  ⟨a, n, vs, e, ru, W1.sub.el s, by omega, by omega, Evl.sz_of (by rw [Reps.len r]; exact Nat.le_trans (Nat.mul_le_mul hl (show n.toNat ≤ 1000 by omega)) (by decide)), fun p hp =>
    k _ (W1.add p _) (W1.grow_add hp) ⟨p, _, rfl, upd_same, Reps.mono (exExt (W1.grow_add hp).b) (reps_rep r _)⟩⟩
theorem s_par {D : Ends} {i j : Nat} {P R : V → Wd → Prop} (ha : EvP ε ta σ W P) (hb : EvP ε tb σ W R) (s : ε.I W) (mono : ∀ v W W', Stp ε W W' → P v W → P v W')
    (k : ∀ v u W', Stp ε W W' → P v W' → R u W' → D.nx ((σ.set i (some v)).set j (some u)) W'.H) : tPar i j (tCons ta (tCons tb tNil)) D σ W.H :=
  ha W (.start s) _ fun v W1 g1 p => hb W1 g1 _ fun u W2 g2 r => ⟨v, u, rfl, k v u W2 (g1.trans g2) (mono v W1 W2 g2 p) r⟩
theorem q_par3 {D : Ends} {tz : TS} {i j l : Nat} {P R S : V → Wd → Prop} (ha : EvP ε ta σ W P) (hb : EvP ε tb σ W R) (hc : EvP ε tc σ W S) (s : ε.I W) (m1 : ∀ v W W', Stp ε W W' → P v W → P v W') (m2 : ∀ v W W', Stp ε W W' → R v W → R v W')
    (k : ∀ v u w W', Stp ε W W' → P v W' → R u W' → S w W' → tz D (((σ.set i (some v)).set j (some u)).set l (some w)) W'.H) : tSeq (tPar3 i j l (tCons ta (tCons tb (tCons tc tNil)))) tz D σ W.H :=
  ha W (.start s) _ fun v W1 g1 p => hb W1 g1 _ fun u W2 g2 r => hc W2 (g1.trans g2) _ fun w W3 g3 q => ⟨v, u, w, rfl, k v u w W3 ((g1.trans g2).trans g3) (m1 v W1 W3 (g2.trans g3) p) (m2 u W2 W3 g3 r) q⟩
end
end B
/-! BX: errors that are kept behind their except suite -/
namespace BX
open PySem PySem.Spec PyProof.Rows L2
/-- an error of the class cls that was caught stands at a -/
def ExK (cls : Value) (d : Option Addr) (a : Addr) : HO := .ext fun h => ∃ (oe : Obj) (vs : Array Value), h.get? a = some oe ∧ Zc cls d oe ∧ oe.data = .fields vs
section
variable {X : Cx} {pins : List (Addr × Obj)} {σ : L2.St} {H : Hp} {s : Shared}
/-- an object that isn't tracked is tracked from now on -/
theorem track {a : Addr} {oe : Obj} {vs : Array Value} {cls : Value} {d : Option Addr} (I : L2.Inv X pins σ H s) (ha : s.heap.get? a = some oe) (hz : Zc cls d oe) (hd : oe.data = .fields vs) (n0 : X.s_0.heap.get? a = none) (na : H a = none) (nL : a ≠ X.env.locals) (hp : ∀ p ∈ X.pn ++ pins, p.1 ≠ a) :
    L2.Inv X pins σ (upd H a (ExK cls d a)) s := by
  have ne0 : ∀ b o, X.s_0.heap.get? b = some o → b ≠ a := fun b o e z => by
    rw [z, n0] at e
    cases e
  have neS : ∀ b o, H b = some o → b ≠ a := fun b o e z => by
    rw [z, na] at e
    cases e
  refine ⟨I.ok, I.os, I.bare, ⟨I.base.keep, I.base.slot, fun b o e n hq => ?_, I.base.there, fun b xs e => ?_, fun b o u e => ?_, fun b ps e => ?_⟩, I.loc, I.cell, ?_, fun x c e => ?_, fun p hq => ?_, fun b u e => ?_, I.len⟩
  · rw [upd_ne (ne0 b o e)]
    exact I.base.free b o e n hq
  · have q := I.base.tups b xs e
    rw [upd_ne (neS b _ q)]
    exact q
  · have q := I.base.frzs b o u e
    rw [upd_ne (neS b _ q)]
    exact q
  · obtain ⟨m, q⟩ := I.base.tbls b ps e
    exact ⟨m, by rw [upd_ne (neS b _ q)]; exact q⟩
  · rw [upd_ne (Ne.symm nL)]
    exact I.free
  · have hc : c ≠ a := fun z => by
      obtain ⟨v, o, ho, hv⟩ := I.cell x c e
      rw [z, ha] at ho
      cases ho
      rw [hd] at hv
      cases hv
    rw [upd_ne hc]
    exact I.freeC x c e
  · obtain ⟨e, n, ne, nf, dd⟩ := I.pin p hq
    exact ⟨e, by rw [upd_ne (hp p hq)]; exact n, ne, nf, dd⟩
  · by_cases hb : b = a
    · subst hb
      rw [upd_same] at e
      cases e
      exact ⟨⟨oe, vs, ha, hz, hd⟩, ⟨oe, ha⟩, fun _ _ ⟨o, v, q, r⟩ k => ⟨o, v, k o q, r⟩⟩
    · rw [upd_ne hb] at e
      exact (I.hok b u e).stay (fun c v _ q => q) (fun c q => by rw [upd_ne (neS c _ q)]; exact q) fun c xs q => by rw [upd_ne (neS c _ q)]; exact q
end
/-- what the clause 'except x as n' wishes of an exception of the body, where the error stays behind the suite -/
def wAsK (K : PySem.W.Frag) (c : Value) (i : Nat) (ts : Addr → Value → Option Addr → TS) (Wout : WX) (D : Ends) : WX := fun cls d σ H =>
  ∃ b, PySem.W.exmOne K cls c = some b ∧ (b = true → ∀ a, H a = none → ts a cls d { nx := fun σ' H' => H' a = none → D.nx (σ'.set i none) (upd H' a (ExK cls d a)), rt := D.rt, bk := fun σ' H' => D.bk (σ'.set i none) H', ct := fun σ' H' => D.ct (σ'.set i none) H' } (σ.set i (some (.ref a))) H) ∧
    (b = false → Wout cls d σ H)
section
variable {X : Cx} {x n : Str} {c : Value} {i : Nat} {body suite : List Stmt} {b₀ : Stmt} {np pos pos' : Pos} {tb : WX → TS} {ts : Addr → Value → Option Addr → TS} {Wout : WX}
theorem ps_try_asK (hs : X.stack = X.env :: X.outer) (hf : X.env.frame = some X.env.locals) (hN : X.N.Nodup) (hi : X.N[i]? = some n) (hln : X.env.kindOf n = some .local) (hc : Names X x c) (tk : Takes X Wout)
    (hb : ∀ (W : WX) (pn : List (Addr × Obj)) (xe : Value → Shared → Prop), Takes (X.tr pn xe) W → PassesOwn (model X.prog X.w) X.A X.env xe → PSs (X.tr pn xe) body (tb W))
    (hsu : ∀ (a : Addr) (oe : Obj) (cls : Value) (d : Option Addr) (pn : List (Addr × Obj)), Zc cls d oe → (∃ vs, oe.data = .fields vs) → PSs (X.suite a ((a, oe) :: pn)) (b₀ :: suite) (ts a cls d)) (hex : X.ex = []) :
    PS X (.Try body [.ExceptHandler (some (.Name x np)) (some n) (b₀ :: suite) pos'] [] [] pos) (fun D σ H => tb (wAsK X.K c i ts Wout D) D σ H) := by
  refine ⟨fun pins s σ H D I h => ?_⟩
  have ok := I.ok
  have hfr : X.A.frames = some (X.env :: X.outer) := by rw [ok.frames, hs]
  have hloc : Loc X.env.scope n := .inl hln
  refine wpAny_Try_except ?_
  refine wpAny_mono ((hb (wAsK X.K c i ts Wout D) (X.pn ++ pins) (fun e s₁ => wpAny (model X.prog X.w) X.A (noteFrame e X.env) (fun _ s₂ => wpAny (model X.prog X.w) X.A (setFlight e none) (fun _ s₃ =>
    wpAny (model X.prog X.w) X.A (handleBy e X.env [.ExceptHandler (some (.Name x np)) (some n) (b₀ :: suite) pos']) (SP X pins D) X.xe s₃) X.xe s₂) X.xe s₁) (fun u s' xx => ?_) PassesOwn.looking).run [] s σ H D (I.toTry _) h) (fun f s1 hsp => ?_) (fun e s1 he => he)
  · -- the catch
    obtain ⟨a, B, sI, pins', σ', H', cls, d, rfl, J', nb, up, sky, na, os, ag, b, hb1, hyes, hno⟩ := xx
    have J : L2.Inv X pins σ' H' sI := J'.ofTry ok
    have sky' : Sky B (X.env :: X.outer) a (Zc cls d) X.env.locals s'.heap := by rw [← hs]; exact sky
    show wpAny (model X.prog X.w) X.A (noteFrame (.ref a) X.env) _ _ _
    refine Sky.land Zc.steady hfr hf sky' fun h3 fl3 up3 => ?_
    have J3 : L2.Inv X pins σ' H' { s' with heap := h3 } := J.landed nb fl3.1 (up.trans up3) os ag
    obtain ⟨oe3, vs3, he3, hz3, hd3⟩ := fl3.there
    have notFr : ∀ {h : Heap} {o : Obj} {vs : Array Value}, h.FunFrames B (X.env :: X.outer) → h.get? a = some o → o.data = .fields vs → a ∉ frs (X.env :: X.outer) := fun {h o vs} ff e dd hm => by
      obtain ⟨_, o', e', hnf⟩ := ff.mem hm
      rw [e] at e'; cases e'
      exact hnf _ dd
    have nfr := notFr fl3.2.2.1 he3 hd3
    have nI : sI.heap.get? a = none := by
      cases q : sI.heap.get? a with
      | none => rfl
      | some o =>
        have z := nb a o q (by rw [hs]; exact nfr)
        rw [fl3.2.1] at z
        cases z
    have n0 : X.s_0.heap.get? a = none := by
      cases q : X.s_0.heap.get? a with
      | none => rfl
      | some o =>
        obtain ⟨o', z⟩ := J.base.there a o q (by rw [hex]; exact fun z => nomatch z)
        rw [nI] at z
        cases z
    have npin : ∀ p ∈ X.pn ++ pins, p.1 ≠ a := fun p hp z => by
      have q := (J.pin p hp).1
      rw [z, nI] at q
      cases q
    have nL : a ≠ X.env.locals := fun z => nfr (List.mem_filterMap.mpr ⟨X.env, List.mem_cons_self, by rw [hf, z]⟩)
    have nF : a ∉ X.fs := fun hm => by
      obtain ⟨e, he, q⟩ := List.mem_filterMap.mp hm
      exact nfr (List.mem_filterMap.mpr ⟨e, List.mem_cons_of_mem _ he, q⟩)
    have S3 := J3.suite he3 hd3 na nL nF
    refine wpAny_handleBy_cons (codeAny_handlers_test ?_) (by intro q; cases q)
    have LT : PySem.W.Looks (model X.prog X.w) h3 (typeOf (.ref a)) cls := fun A Q E s k q => wpAny_typeOf_ref (k _ _ he3) (by rw [hz3.1]; exact q)
    have LM := PySem.W.exm_one (M := model X.prog X.w) (J3.kIn) LT hb1
    have test : ∀ {Q : Value → Shared → Prop} {E : Value → Shared → Prop}, Q c { s' with heap := h3 } → wpAny (model X.prog X.w) (X.A.mark (some (.ref a))) (eval (.Name x np) X.env) Q E { s' with heap := h3 } := fun {Q E} q => by
      obtain ⟨hg, hdbg, hm | ⟨hm, hv, hnn⟩⟩ := hc
      · exact ld_glob (X := X.suite a ((a, oe3) :: (X.pn ++ pins))) S3 hg hm q hdbg
      · exact ld_blt (X := X.suite a ((a, oe3) :: (X.pn ++ pins))) S3 hg hm hv q hnn hdbg
    refine test (LM.here ?_)
    cases b with
    | true =>
      refine codeAny_handlers_suite_as ?_
      refine HandSPX.lands_againZ fl3 fun h4 fl4 up4 => ?_
      have J4 : L2.Inv X pins σ' H' { s' with heap := h4 } := J.landed nb fl4.1 ((up.trans up3).trans up4) os ag
      obtain ⟨oe4, vs4, he4, hz4, hd4⟩ := fl4.there
      have S4 := J4.suite he4 hd4 na nL nF
      refine store_ok (X := X.suite a ((a, oe4) :: (X.pn ++ pins))) (v := .ref a) S4 hN hi hloc rfl (fun s5 S5 => ?_) (.inr hln)
      refine wpAny_mono ((hsu a oe4 cls d (X.pn ++ pins) hz4 ⟨_, hd4⟩).run [] s5 _ H' _ S5 (hyes rfl a na)) (fun f s6 hsp => ?_) (fun _ _ z => False.elim z)
      have end_ : ∀ {σ6 : L2.St} {H6 : Hp} {Q : Shared → Prop}, L2.Inv X pins σ6 H6 s6 → (∀ s7, L2.Inv X pins (σ6.set i none) H6 s7 → Q s7) →
          wpAny (model X.prog X.w) X.A (do bindName X.env n .none; unbindBehindTheSuite X.env n pos') (fun _ s7 => Q s7) X.xe s6 := fun {σ6 H6 Q} S6 hq => gone_ok S6 hN hi hln hq
      cases f with
      | next =>
        obtain ⟨σ6, H6, S6, q6⟩ := hsp
        obtain ⟨p1, p2, _⟩ := S6.pin (a, oe4) (List.mem_append_left _ List.mem_cons_self)
        exact end_ (track (S6.unsuite ok) p1 hz4 hd4 n0 p2 nL npin) fun s7 J7 => ⟨_, _, J7, q6 p2⟩
      | brk =>
        obtain ⟨σ6, H6, S6, q6⟩ := hsp
        exact end_ (S6.unsuite ok) fun s7 J7 => ⟨_, _, J7, q6⟩
      | cont =>
        obtain ⟨σ6, H6, S6, q6⟩ := hsp
        exact end_ (S6.unsuite ok) fun s7 J7 => ⟨_, _, J7, q6⟩
      | ret u =>
        obtain ⟨v6, σ6, H6, S6, r6, q6⟩ := hsp
        exact end_ (S6.unsuite ok) fun s7 J7 => ⟨_, _, _, J7, r6, q6⟩
    | false =>
      show wpAny _ X.A (handleBy (.ref a) X.env []) _ _ _
      refine wpAny_handleBy_nil ?_
      obtain ⟨k1, k2, k3, oe, vs, T, oT, ts', he, hz, hd, h1, hr⟩ := id fl3
      unfold PySem.passOn
      refine wpAny_bind (wpAny_field he hd h1 ?_)
      rw [if_neg (show ¬ ((Value.ref T == Value.none) = true) from by simp)]
      have fin : wpAny (model X.prog X.w) X.A (setFlight (.ref a) X.env.frame) (fun _ s4 => wpAny (model X.prog X.w) X.A (throw (.ref a) : Sem Flow) (SP X pins D) X.xe s4) X.xe { s' with heap := h3 } := by
        rw [hf]
        refine HandSPX.setFlight_upZ fl3 fun h4 hh4 up4 => wpAny_throw (tk _ _ ?_)
        exact ⟨a, B, sI, pins, σ', H', cls, d, rfl, J, nb, (up.trans up3).trans up4, .inr (.inr (by rw [hs]; exact hh4)), na, os, ag, hno rfl⟩
      first
        | exact wpAny_bind (wpAny_pure (wpAny_bind fin))
        | exact wpAny_bind fin
  · cases f with
    | next =>
      obtain ⟨σ', H', J', q⟩ := hsp
      exact wpAny_execs_nil ⟨σ', H', J'.ofTry ok, q⟩
    | brk =>
      obtain ⟨σ', H', J', q⟩ := hsp
      exact ⟨σ', H', J'.ofTry ok, q⟩
    | cont =>
      obtain ⟨σ', H', J', q⟩ := hsp
      exact ⟨σ', H', J'.ofTry ok, q⟩
    | ret u =>
      obtain ⟨v, σ', H', J', r, q⟩ := hsp
      exact ⟨v, σ', H', J'.ofTry ok, r, q⟩
end
/-- isinstance(e, c), e an error that was kept -/
def rIsK (K : PySem.W.Frag) : List V → Hp → VK → Prop := fun xs H Q => ∃ (a D : Addr) (c : V) (cv : Value) (b : Bool), xs = [.ref a, c] ∧ H a = some (ExK (.ref D) none a) ∧ ExcC K D ∧ (∀ u, RelV c u → u = cv) ∧ PySem.W.kitOne K (.ref D) cv = some b ∧ Q (.bl b) H
theorem call_isK {X : Cx} : CallR X (.builtin "isinstance") (rIsK X.K) := by
  intro pins s σ H xs us Q I r h
  obtain ⟨a, D, c, cv, b, rfl, ha, C, hcv, e, q⟩ := h
  cases r with
  | cons rx rr =>
    cases rr with
    | cons rt rr =>
      cases rr
      cases rx
      have ec := hcv _ rt
      subst ec
      obtain ⟨oe, vs, hget, hz, hv⟩ := (I.hok a _ ha).1
      have J : PySem.W.InstAt s.heap a oe D none := by
        obtain ⟨oc, od, oda, osl⟩ := oe
        obtain ⟨h1, h2⟩ := hz
        dsimp only at h1 h2 hv
        subst h1 h2 hv
        exact ⟨hget, rfl, rfl, trivial⟩
      exact PySem.W.kia_one (PySem.W.handS_kitx_exc C.hg C.hk C.hs C.hd C.ha C.hn C.ht C.hm) I.kIn J e (fun z => nomatch z) fun tk => ⟨.bl b, H, I.kept (t' := tk) fun _ _ z => z, rfl, q⟩
/-- an error's class, over ValueError, without an __init__ of its own -/
structure ErrC (K : PySem.W.Frag) (C : Addr) : Prop where
  k : PySem.W.keepIn K (.ref C) = true
  q : PySem.W.excIn K C [.type "ValueError", .type "Exception", .type "BaseException", .type "object"] "ValueError.__new__" = true
  s : PySem.W.subIn K (.ref C) (.type "BaseException") = some true
  t : PySem.W.typeIn K (.ref C) = some (.type "type")
  e : PySem.W.exmOne K (.ref C) (.ref C) = some true
  c : ExcC K C
  v : PySem.W.kitOne K (.ref C) (.type "ValueError") = some true
/-- an error of the class at S is what «except S» names -/
theorem exm_self {K : PySem.W.Frag} {S : Addr} (h1 : PySem.W.subIn K (.ref S) (.type "BaseException") = some true) (h2 : PySem.W.isClsIn K S = true) (h3 : PySem.W.typeIn K (.ref S) = some (.type "type")) (h4 : PySem.W.subIn K (.ref S) (.ref S) = some true) :
    PySem.W.exmOne K (.ref S) (.ref S) = some true := by
  have e1 : (PySem.W.subIn K (.ref S) (.type "BaseException") == some true) = true := by rw [h1] <;> rfl
  have e2 : ((PySem.W.clsIn K S).isSome && PySem.W.typeIn K (.ref S) == some (.type "type")) = true := by
    have h2' : (PySem.W.clsIn K S).isSome = true := h2
    rw [h2', h3] <;> rfl
  show (if (PySem.W.subIn K (.ref S) (.type "BaseException") == some true) = true then (if ((PySem.W.clsIn K S).isSome && PySem.W.typeIn K (.ref S) == some (.type "type")) = true then PySem.W.subIn K (.ref S) (.ref S) else none) else none) = some true
  rw [if_pos e1, if_pos e2]
  exact h4
theorem kit_ve {K : PySem.W.Frag} {C : Addr} {T : String} (hm : PySem.W.kitMeta T = true) (h : PySem.W.subIn K (.ref C) (.type T) = some true) : PySem.W.kitOne K (.ref C) (.type T) = some true := by
  unfold PySem.W.kitOne
  rw [if_neg (show ¬ ((Value.ref C == Value.type T) = true) from fun z => by have := eq_of_beq z; cases this)]
  show (if PySem.W.kitMeta T = true then _ else _) = _
  rw [if_pos hm]
  exact h
/-- raise C('..') out of a def -/
abbrev tRaiseO (C : Addr) (E : XK) : TS := fun _ _ H => E (.ref C) none H
/-- try: body, except C as n (slot i): suite -/
abbrev tTryK (K : PySem.W.Frag) (C : Addr) (i : Nat) (tb : WX → TS) (ts : Addr → Value → Option Addr → TS) : TS := fun D σ H => tb (wAsK K (.ref C) i ts (fun _ _ _ _ => False) D) D σ H
theorem ps_raiseO {X : Cx} {E : XK} {C : Addr} {x m : Str} {j : Nat} {p p2 pos pos2 : Pos} {E₁ : Value → Shared → Prop} (c : ErrC X.K C) (g : X.mg x = some (.ref C)) (hc : X.calm = true) (hs : X.stack = X.env :: X.outer) (hf : X.env.frame = some X.env.locals) (hex : X.ex = [])
    (hx : X.xe = fun e s' => wpAny (model X.prog X.w) X.A (leaving X.env e) (fun _ s'' => L2.CX X.prog X.w X.outer X.H_0 X.s_0 E e s'') E₁ s') (hg : Gl X x) (hdb : (x == ("__debug__" : Str)) = false := by decide) :
    PS X (.Raise (some (.Call (.Name x p) [.Constant (.str m) j p2] [] pos)) none pos2) (tRaiseO C E) :=
  ps_raise hc (takes_of hs hf hex hx) (pmk_own PySem.F.excBase_ValueError c.q g c.k (raises_own c.s c.t) hg hdb)
end BX
/-! B: shifts; odd things of any kind; slices of a tuple of four -/
namespace B
open PySem L2
open PySem.W (Tup T3 T4 Datum DatumOrd)
open Evl (Ex)
abbrev oShl : R2 := rI CPow fun i j => .int (i * 2 ^ j.toNat)
abbrev oShr : R2 := rI (fun _ j => 0 ≤ j) fun i j => .int (i / 2 ^ j.toNat)
abbrev oAnd : R2 := rI0 fun i j => .int (Builtin.bitAnd i j)
/-- a thing of any kind -/
inductive Odd where
  | int (n : Int) | bl (b : Bool) | non | str (s : Str) | tup (ns : List Int) | lst (ns : List Int) | dct
def oRep (K : Fg) (H : Hp) (v : V) : Odd → Prop
  | .int n => rep K H v n
  | .bl b => rep K H v b
  | .non => rep K H v ()
  | .str s => rep K H v s
  | .tup n => rep K H v (Tup.mk n)
  | .lst n => rep K H v n
  | .dct => rep K H v (⟨[]⟩ : Dict Int Int)
theorem oRep_mono {K : Fg} {H H' : Hp} {v : V} (e : Ext H H') : ∀ {o : Odd}, oRep K H v o → oRep K H' v o
  | .int n, h => Py.mono (α := Int) e h
  | .bl b, h => Py.mono (α := Bool) e h
  | .non, h => Py.mono (α := Unit) e h
  | .str s, h => Py.mono (α := Str) e h
  | .tup n, h => Py.mono (α := Tup Int) e h
  | .lst n, h => Py.mono (α := List Int) e h
  | .dct, h => Py.mono (α := Dict Int Int) e h
instance : Py Odd := ⟨oRep, fun e h => oRep_mono e h⟩
def Odd.cls : Odd → String
  | .int _ => "int" | .bl _ => "bool" | .non => "NoneType" | .str _ => "str" | .tup _ => "tuple" | .lst _ => "list" | .dct => "dict"
theorem ty_dct {K : Fg} {κ α : Type} [PyKey κ] [Py α] {d : Dict κ α} (W1 : Wd) (v : V) (h : rep K W1.B v d) : TyX K W1.H v (.type "dict") := by
  obtain ⟨a, ks, rfl, h1, _⟩ := h
  rcases W1.sub.rd h1 with z | ⟨o, z⟩
  · exact .base (.dK z)
  · exact .fDict z
theorem ty_odd {K : Fg} (W1 : Wd) (v : V) : ∀ (o : Odd), rep K W1.B v o → TyX K W1.H v (.type o.cls)
  | .int n, h => ty_int W1 v h
  | .bl b, h => ty_bl W1 v h
  | .non, h => ty_non W1 v h
  | .str s, h => ty_str W1 v h
  | .tup n, h => ty_tup W1 v h
  | .lst n, h => ty_lst W1 v h
  | .dct, h => ty_dct W1 v h
def Odd.isI : Odd → Bool
  | .int _ => true | .bl _ => true | _ => false
def Odd.isB : Odd → Bool
  | .bl _ => true | _ => false
theorem odd_kitI : ∀ o : Odd, kitB o.cls "int" = some o.isI
  | .int _ => (by decide +kernel : kitB "int" "int" = some true)
  | .bl _ => (by decide +kernel : kitB "bool" "int" = some true)
  | .non => (by decide +kernel : kitB "NoneType" "int" = some false)
  | .str _ => (by decide +kernel : kitB "str" "int" = some false)
  | .tup _ => (by decide +kernel : kitB "tuple" "int" = some false)
  | .lst _ => (by decide +kernel : kitB "list" "int" = some false)
  | .dct => (by decide +kernel : kitB "dict" "int" = some false)
theorem odd_kitB : ∀ o : Odd, kitB o.cls "bool" = some o.isB
  | .int _ => (by decide +kernel : kitB "int" "bool" = some false)
  | .bl _ => (by decide +kernel : kitB "bool" "bool" = some true)
  | .non => (by decide +kernel : kitB "NoneType" "bool" = some false)
  | .str _ => (by decide +kernel : kitB "str" "bool" = some false)
  | .tup _ => (by decide +kernel : kitB "tuple" "bool" = some false)
  | .lst _ => (by decide +kernel : kitB "list" "bool" = some false)
  | .dct => (by decide +kernel : kitB "dict" "bool" = some false)
section
variable {α β γ δ : Type} [Py α] [Py β] [Py γ] [Py δ] {K : Fg} {W W' : Wd} {σ : SS} {ε : Ef} {te ta tb tc td : TE}
theorem ev_oI {n : Int} (h : EvR ε K te σ W n) : EvR ε K te σ W (Odd.int n) := h
theorem ev_oB {n : Bool} (h : EvR ε K te σ W n) : EvR ε K te σ W (Odd.bl n) := h
theorem ev_oN (h : EvR ε K te σ W ()) : EvR ε K te σ W Odd.non := h
theorem ev_oS {n : Str} (h : EvR ε K te σ W n) : EvR ε K te σ W (Odd.str n) := h
theorem ev_oT {n : List Int} (h : EvR ε K te σ W (Tup.mk n)) : EvR ε K te σ W (Odd.tup n) := h
theorem ev_oL {n : List Int} (h : EvR ε K te σ W n) : EvR ε K te σ W (Odd.lst n) := h
theorem ev_oD (h : EvD ε K te σ W (⟨[]⟩ : Dict Int Int)) : EvR ε K te σ W Odd.dct := h.rep
/-- [:2] and [2:] of a tuple of four -/
theorem ev_slQa {p : T4 α β γ δ} (h : EvR ε K te σ W p) : EvR ε K (tSl (rSlA K) te tNoPart (tPart (tC (.int 2)))) σ W (p.a, p.b) := fun W1 g1 Q k => h W1 g1 _ fun v W2 g2 ⟨a, x, y, z, w, e, s, r1, r2, r3, r4⟩ =>
  ⟨2, rfl, a, [x, y, z, w], e, SqT.of (W2.sub.et s), fun h0 => absurd h0.2 (by show ¬ (min 2 4 = 4); decide), fun _ p hp => k _ (W2.add p (.tup [x, y])) (g2.and (W2.grow_add hp)) ⟨p, x, y, rfl, upd_same, rep_g (W2.grow_add hp) r1, rep_g (W2.grow_add hp) r2⟩⟩
theorem ev_slQb {p : T4 α β γ δ} (h : EvR ε K te σ W p) : EvR ε K (tSl (rSlA K) te (tPart (tC (.int 2))) tNoPart) σ W (p.c, p.d) := fun W1 g1 Q k => h W1 g1 _ fun v W2 g2 ⟨a, x, y, z, w, e, s, r1, r2, r3, r4⟩ =>
  ⟨2, rfl, a, [x, y, z, w], e, SqT.of (W2.sub.et s), fun h0 => absurd h0.1 (by show ¬ (min 2 4 = 0); decide), fun _ p hp => k _ (W2.add p (.tup [z, w])) (g2.and (W2.grow_add hp)) ⟨p, z, w, rfl, upd_same, rep_g (W2.grow_add hp) r3, rep_g (W2.grow_add hp) r4⟩⟩
theorem rc_min {xs : List Int} {m : Int} (h1 : m ∈ xs) (h2 : ∀ y ∈ xs, m ≤ y) : RC1 K (rMin K) xs m := fun v W1 ⟨a, vs, e, s, r⟩ Q k => ⟨a, xs, by rw [e], by rw [← reps_int r]; exact SqL.of (W1.sub.el s), List.length_pos_of_mem h1, fun m' h3 h4 => by
  have : m' = m := Int.le_antisymm (h4 m h1) (h2 m' h3)
  rw [this]
  exact k _ W1 (.refl _ _) rfl⟩
end
end B
/-! runs: the mathematics -/
namespace B
/-- the groups by their sizes: each level one or two, the newest first -/
def insL : Int → List (List Int) → List (List Int)
  | t, [] => [[t]]
  | t, [a] :: r => [t, a] :: r
  | t, [a, b] :: r => [t] :: insL a r
  | t, _ :: r => [t] :: r
def flat : Int → List (List Int) → List (Int × Int)
  | _, [] => []
  | s, l :: r => l.map (fun x => (s, x)) ++ flat (2 * s) r
def LOk (L : List (List Int)) : Prop := ∀ l ∈ L, l.length = 1 ∨ l.length = 2
theorem lok_ins : ∀ (L : List (List Int)) (t : Int), LOk L → LOk (insL t L)
  | [], t, _ => fun l h => by rw [List.mem_singleton.mp h]; exact .inl rfl
  | [] :: r, t, h => by
    have := h [] List.mem_cons_self
    simp at this
  | [a] :: r, t, h => fun l hl => by
    rcases List.mem_cons.mp hl with e | e
    · rw [e]; exact .inr rfl
    · exact h l (List.mem_cons_of_mem _ e)
  | [a, b] :: r, t, h => fun l hl => by
    rcases List.mem_cons.mp hl with e | e
    · rw [e]; exact .inl rfl
    · exact lok_ins r a (fun x hx => h x (List.mem_cons_of_mem _ hx)) l e
  | (a :: b :: c :: d) :: r, t, h => by
    have := h _ List.mem_cons_self
    simp at this
theorem len_ins : ∀ (L : List (List Int)) (t : Int), (insL t L).length ≤ L.length + 1
  | [], t => Nat.le_refl _
  | [] :: r, t => Nat.le_succ _
  | [a] :: r, t => Nat.le_succ _
  | [a, b] :: r, t => by
    have := len_ins r a
    show (insL a r).length + 1 ≤ r.length + 1 + 1
    omega
  | (a :: b :: c :: d) :: r, t => Nat.le_succ _
theorem flat_len : ∀ (L : List (List Int)) (s : Int), LOk L → (flat s L).length ≤ 2 * L.length
  | [], s, _ => Nat.le_refl _
  | l :: r, s, h => by
    have h1 := h l List.mem_cons_self
    have h2 := flat_len r (2 * s) fun x hx => h x (List.mem_cons_of_mem _ hx)
    show (l.map (fun x => (s, x)) ++ flat (2 * s) r).length ≤ 2 * (r.length + 1)
    rw [List.length_append, List.length_map]
    omega
/-- the marks behind the groups, both the newest first -/
def Bl : List (Int × Int) → List Int → Prop
  | [], r => r = []
  | (s, o) :: g, r => ∃ xs r', r = o :: (xs ++ r') ∧ (xs.length : Int) = s - 1 ∧ Bl g r'
theorem bl_ins : ∀ (L : List (List Int)) (s : Int) (t : Int) (cs r : List Int), LOk L → (cs.length : Int) = s - 1 → Bl (flat s L) r → Bl (flat s (insL t L)) (t :: (cs ++ r))
  | [], s, t, cs, r, _, hc, h => by
    have hr : r = [] := h
    subst hr
    exact ⟨cs, [], by simp, hc, rfl⟩
  | [] :: R, s, t, cs, r, h, _, _ => by
    have := h [] List.mem_cons_self
    simp at this
  | [a] :: R, s, t, cs, r, _, hc, h => ⟨cs, r, rfl, hc, h⟩
  | [a, b] :: R, s, t, cs, r, hL, hc, h => by
    obtain ⟨xs, r1, rfl, hx, ys, r2, rfl, hy, h⟩ := h
    refine ⟨cs, _, rfl, hc, ?_⟩
    have := bl_ins R (2 * s) a (xs ++ b :: ys) r2 (fun x hx => hL x (List.mem_cons_of_mem _ hx)) (by rw [List.length_append, List.length_cons]; omega) h
    simpa using this
  | (a :: b :: c :: d) :: R, s, t, cs, r, h, _, _ => by
    have := h _ List.mem_cons_self
    simp at this
def Lf (p : List Int) : List (List Int) := p.foldl (fun L t => insL t L) []
theorem fold_lok : ∀ (p : List Int) (L : List (List Int)), LOk L → LOk (p.foldl (fun L t => insL t L) L)
  | [], L, h => h
  | t :: p, L, h => fold_lok p (insL t L) (lok_ins L t h)
theorem lf_lok (p : List Int) : LOk (Lf p) := fold_lok p [] fun l h => by simp at h
theorem fold_len : ∀ (p : List Int) (L : List (List Int)), (p.foldl (fun L t => insL t L) L).length ≤ L.length + p.length
  | [], L => Nat.le_refl _
  | t :: p, L => by
    have h1 := fold_len p (insL t L)
    have h2 := len_ins L t
    show (p.foldl (fun L t => insL t L) (insL t L)).length ≤ _
    rw [List.length_cons]
    omega
theorem bl_fold : ∀ (p : List Int) (L : List (List Int)) (r : List Int), LOk L → Bl (flat 1 L) r → Bl (flat 1 (p.foldl (fun L t => insL t L) L)) (p.reverse ++ r)
  | [], L, r, _, h => h
  | t :: p, L, r, hL, h => by
    have h1 := bl_ins L 1 t [] r hL rfl h
    have h2 := bl_fold p (insL t L) (t :: r) (lok_ins L t hL) h1
    rw [List.reverse_cons, List.append_assoc]
    exact h2
theorem bl_lf (p : List Int) : Bl (flat 1 (Lf p)) p.reverse := by
  have := bl_fold p [] [] (fun l h => by simp at h) rfl
  rwa [List.append_nil] at this
def valL : List (List Int) → Nat
  | [] => 0
  | l :: r => l.length + 2 * valL r
theorem bl_val : ∀ (L : List (List Int)) (s : Nat) (r : List Int), LOk L → 1 ≤ s → Bl (flat s L) r → r.length = s * valL L
  | [], s, r, _, _, h => by
    have hr : r = [] := h
    subst hr
    simp [valL]
  | [] :: R, s, r, h, _, _ => by
    have := h [] List.mem_cons_self
    simp at this
  | [a] :: R, s, r, hL, hs, h => by
    obtain ⟨xs, r1, rfl, hx, h⟩ := h
    have h' : Bl (flat ((2 * s : Nat) : Int) R) r1 := by
      rw [show ((2 * s : Nat) : Int) = 2 * (s : Int) by omega]; exact h
    have ih := bl_val R (2 * s) r1 (fun x hx => hL x (List.mem_cons_of_mem _ hx)) (by omega) h'
    show (a :: (xs ++ r1)).length = s * (1 + 2 * valL R)
    rw [List.length_cons, List.length_append, ih, Nat.mul_add, Nat.mul_one, ← Nat.mul_assoc, Nat.mul_comm s 2]
    omega
  | [a, b] :: R, s, r, hL, hs, h => by
    obtain ⟨xs, r1, rfl, hx, ys, r2, rfl, hy, h⟩ := h
    have h' : Bl (flat ((2 * s : Nat) : Int) R) r2 := by
      rw [show ((2 * s : Nat) : Int) = 2 * (s : Int) by omega]; exact h
    have ih := bl_val R (2 * s) r2 (fun x hx => hL x (List.mem_cons_of_mem _ hx)) (by omega) h'
    show (a :: (xs ++ b :: (ys ++ r2))).length = s * (2 + 2 * valL R)
    rw [List.length_cons, List.length_append, List.length_cons, List.length_append, ih, Nat.mul_add, ← Nat.mul_assoc, Nat.mul_comm s 2]
    omega
  | (a :: b :: c :: d) :: R, s, r, h, _, _ => by
    have := h _ List.mem_cons_self
    simp at this
theorem bl_uniq : ∀ (L L' : List (List Int)) (s : Nat) (r : List Int), 1 ≤ s → LOk L → LOk L' → Bl (flat s L) r → Bl (flat s L') r → L = L'
  | L, L', s, r, hs, hL, hL', h, h' => by
    have v1 := bl_val L s r hL hs h
    have v2 := bl_val L' s r hL' hs h'
    have ev : valL L = valL L' := Nat.eq_of_mul_eq_mul_left (by omega) (v1.symm.trans v2)
    match L, L', hL, hL', h, h', ev with
    | [], [], _, _, _, _, _ => rfl
    | [], l :: R, _, hL', _, _, ev =>
      have := hL' l List.mem_cons_self
      have : 0 = l.length + 2 * valL R := ev
      omega
    | l :: R, [], hL, _, _, _, ev =>
      have := hL l List.mem_cons_self
      have : l.length + 2 * valL R = 0 := ev
      omega
    | l :: R, l' :: R', hL, hL', h, h', ev =>
      have e1 := hL l List.mem_cons_self
      have e2 := hL' l' List.mem_cons_self
      have e3 : l.length + 2 * valL R = l'.length + 2 * valL R' := ev
      have e4 : l.length = l'.length := by omega
      have c2 : ((2 * s : Nat) : Int) = 2 * (s : Int) := by omega
      have sR : LOk R := fun x hx => hL x (List.mem_cons_of_mem _ hx)
      have sR' : LOk R' := fun x hx => hL' x (List.mem_cons_of_mem _ hx)
      match l, l', e1, e4, h, h' with
      | [a], [a'], _, _, h, h' =>
        obtain ⟨xs, r1, q1, hx, h⟩ := h
        obtain ⟨xs', r1', q1', hx', h'⟩ := h'
        rw [q1] at q1'
        injection q1' with q2 q3
        have q4 := List.append_inj q3 (by omega)
        rw [q4.2] at h
        have := bl_uniq R R' (2 * s) r1' (by omega) sR sR' (by rw [c2]; exact h) (by rw [c2]; exact h')
        rw [q2, this]
      | [a, b], [a', b'], _, _, h, h' =>
        obtain ⟨xs, r1, q1, hx, ys, r2, p1, hy, h⟩ := h
        obtain ⟨xs', r1', q1', hx', ys', r2', p1', hy', h'⟩ := h'
        rw [q1] at q1'
        injection q1' with q2 q3
        have q4 := List.append_inj q3 (by omega)
        rw [p1, p1'] at q4
        have q5 := q4.2
        injection q5 with q6 q7
        have q8 := List.append_inj q7 (by omega)
        rw [q8.2] at h
        have := bl_uniq R R' (2 * s) r2' (by omega) sR sR' (by rw [c2]; exact h) (by rw [c2]; exact h')
        rw [q2, q6, this]
termination_by L => L.length
theorem lf_of_bl {L : List (List Int)} {p : List Int} (hL : LOk L) (h : Bl (flat 1 L) p.reverse) : Lf p = L := bl_uniq (Lf p) L 1 p.reverse (Nat.le_refl _) (lf_lok p) hL (bl_lf p) h
/-- the marks behind the groups, both the oldest first -/
def BlA : List (Int × Int) → List Int → Prop
  | [], p => p = []
  | (s, o) :: g, p => ∃ xs p', p = xs ++ o :: p' ∧ (xs.length : Int) = s - 1 ∧ BlA g p'
theorem bla_snoc {s o : Int} : ∀ (g : List (Int × Int)) (p : List Int), BlA (g ++ [(s, o)]) p ↔ ∃ p1 xs, p = p1 ++ (xs ++ [o]) ∧ BlA g p1 ∧ (xs.length : Int) = s - 1
  | [], p => by
    constructor
    · rintro ⟨xs, p', rfl, hx, hp⟩
      have : p' = [] := hp
      subst this
      exact ⟨[], xs, rfl, rfl, hx⟩
    · rintro ⟨p1, xs, rfl, h1, hx⟩
      have : p1 = [] := h1
      subst this
      exact ⟨xs, [], by simp, hx, rfl⟩
  | (s', o') :: g, p => by
    constructor
    · rintro ⟨ys, p', rfl, hy, hp⟩
      obtain ⟨p1, xs, rfl, h1, hx⟩ := (bla_snoc g p').mp hp
      exact ⟨ys ++ o' :: p1, xs, by simp, ⟨ys, p1, rfl, hy, h1⟩, hx⟩
    · rintro ⟨p1, xs, rfl, ⟨ys, p2, rfl, hy, h2⟩, hx⟩
      exact ⟨ys, p2 ++ (xs ++ [o]), by simp, hy, (bla_snoc g _).mpr ⟨p2, xs, rfl, h2, hx⟩⟩
theorem bla_rev : ∀ (g : List (Int × Int)) (p : List Int), BlA g.reverse p ↔ Bl g p.reverse
  | [], p => by
    show p = [] ↔ p.reverse = []
    simp
  | (s, o) :: g, p => by
    rw [List.reverse_cons, bla_snoc]
    constructor
    · rintro ⟨p1, xs, rfl, h1, hx⟩
      exact ⟨xs.reverse, p1.reverse, by simp, by rw [List.length_reverse]; exact hx, (bla_rev g p1).mp h1⟩
    · rintro ⟨xs, r', e, hx, h⟩
      refine ⟨r'.reverse, xs.reverse, ?_, (bla_rev g _).mpr (by rw [List.reverse_reverse]; exact h), by rw [List.length_reverse]; exact hx⟩
      have := congrArg List.reverse e
      rw [List.reverse_reverse] at this
      rw [this]
      simp
/-! ### gaps -/
open PySem.W (T3)
def rgI (a b : Int) : List Int := rng a (b - a).toNat
theorem rgI_mem {a b x : Int} : x ∈ rgI a b ↔ a ≤ x ∧ x < b := by
  unfold rgI
  rw [rng_mem]
  omega
theorem rgI_asc (a b : Int) : (rgI a b).Pairwise (· < ·) := by
  unfold rgI rng
  rw [List.pairwise_map]
  exact List.pairwise_lt_range.imp fun h => by omega
theorem asc_nodup {l : List Int} (h : l.Pairwise (· < ·)) : l.Nodup := h.imp fun h e => by omega
theorem rgI_len (a b : Int) : (rgI a b).length = (b - a).toNat := rng_len _ _
def gapsF : Int → List (Int × Int) → List (T3 Int Int Int)
  | _, [] => []
  | a, (s, o) :: g => ⟨a, o, s - 1⟩ :: gapsF o g
def inB (f l x : Int) : Bool := decide (f ≤ x) && decide (x ≤ l)
def outB (f l x : Int) : Bool := decide (x < f) || decide (l < x)
theorem out_not {f l x : Int} : outB f l x = !inB f l x := by
  unfold outB inB
  rw [Bool.eq_iff_iff]
  simp
def innF (f l a o : Int) : List Int := (rgI (a + 1) o).filter (inB f l)
def outF (f l a o : Int) : List Int := (rgI (a + 1) o).filter (outB f l)
def takF (f l : Int) (many : Bool) (a o n : Int) : List Int := (if many then innF f l a o ++ outF f l a o else outF f l a o ++ innF f l a o).take n.toNat
def srt (l : List Int) : List Int := l.mergeSort (fun a b => decide (a ≤ b))
theorem srt_perm (l : List Int) : (srt l).Perm l := List.mergeSort_perm l _
theorem srt_le (l : List Int) : (srt l).Pairwise (· ≤ ·) := (List.pairwise_mergeSort (le := fun a b : Int => decide (a ≤ b)) (fun a b c h1 h2 => by simp at *; omega) (fun a b => by simp; omega) l).imp fun h => of_decide_eq_true h
def mwF (f l : Int) (many : Bool) (gs : List (T3 Int Int Int)) : List Int := gs.flatMap fun g => srt (takF f l many g.a g.b g.c) ++ [g.b]
def GOk : Int → List (Int × Int) → Prop
  | _, [] => True
  | a, (s, o) :: g => a < o ∧ 1 ≤ s ∧ s - 1 ≤ o - a - 1 ∧ GOk o g
theorem sub_rg {a o : Int} {xs : List Int} (h : ∀ x ∈ xs, a < x ∧ x < o) (hn : xs.Nodup) : xs.length ≤ (o - (a + 1)).toNat := by
  have := nodup_le hn (m := rgI (a + 1) o) fun x hx => rgI_mem.mpr (by have := h x hx; omega)
  rwa [rgI_len] at this
theorem asc_split {a o : Int} {xs p : List Int} (h : (a :: (xs ++ o :: p)).Pairwise (· < ·)) : (∀ x ∈ xs, a < x ∧ x < o) ∧ xs.Nodup ∧ a < o ∧ (o :: p).Pairwise (· < ·) := by
  rw [List.pairwise_cons, List.pairwise_append] at h
  obtain ⟨h1, h2, h3, h4⟩ := h
  exact ⟨fun x hx => ⟨h1 x (List.mem_append_left _ hx), h4 x hx o List.mem_cons_self⟩, asc_nodup h2, h1 o (List.mem_append_right _ List.mem_cons_self), h3⟩
theorem gok_of : ∀ (G : List (Int × Int)) (a : Int) (p : List Int), BlA G p → (a :: p).Pairwise (· < ·) → GOk a G
  | [], _, _, _, _ => trivial
  | (s, o) :: g, a, p, ⟨xs, p', e, hx, hb⟩, h => by
    subst e
    obtain ⟨h1, h2, h3, h4⟩ := asc_split h
    have := sub_rg h1 h2
    exact ⟨h3, by omega, by omega, gok_of g o p' hb h4⟩
theorem tak_sub {f l a o n : Int} {many : Bool} : ∀ x ∈ takF f l many a o n, a < x ∧ x < o := fun x hx => by
  have h1 := List.mem_of_mem_take hx
  have : x ∈ rgI (a + 1) o := by
    cases many with
    | true =>
      rcases List.mem_append.mp h1 with h | h
      · exact (List.mem_filter.mp h).1
      · exact (List.mem_filter.mp h).1
    | false =>
      rcases List.mem_append.mp h1 with h | h
      · exact (List.mem_filter.mp h).1
      · exact (List.mem_filter.mp h).1
  have := rgI_mem.mp this
  omega
theorem inn_out_perm (f l a o : Int) : (innF f l a o ++ outF f l a o).Perm (rgI (a + 1) o) := by
  have : outF f l a o = (rgI (a + 1) o).filter fun x => !inB f l x := by
    unfold outF
    exact List.filter_congr fun x _ => out_not
  rw [this]
  exact List.filter_append_perm _ _
theorem all_perm (f l a o : Int) (many : Bool) : (if many then innF f l a o ++ outF f l a o else outF f l a o ++ innF f l a o).Perm (rgI (a + 1) o) := by
  cases many with
  | true => exact inn_out_perm f l a o
  | false => exact List.perm_append_comm.trans (inn_out_perm f l a o)
theorem tak_nodup (f l a o n : Int) (many : Bool) : (takF f l many a o n).Nodup := by
  unfold takF
  exact ((all_perm f l a o many).nodup_iff.mpr (asc_nodup (rgI_asc _ _))).sublist (List.take_sublist _ _)
theorem tak_len {f l a o n : Int} {many : Bool} (h0 : 0 ≤ n) (h : n ≤ o - a - 1) : ((takF f l many a o n).length : Int) = n := by
  unfold takF
  rw [List.length_take, (all_perm f l a o many).length_eq, rgI_len]
  omega
theorem srt_asc {l : List Int} (h : l.Nodup) : (srt l).Pairwise (· < ·) := by
  have h1 := srt_le l
  have h2 : (srt l).Nodup := (srt_perm l).nodup_iff.mpr h
  have h3 := List.Pairwise.and h1 h2
  exact h3.imp fun ⟨a, b⟩ => by omega
/-- what is made so may have been -/
theorem mw_ok (f l : Int) (many : Bool) : ∀ (G : List (Int × Int)) (a : Int), GOk a G → BlA G (mwF f l many (gapsF a G)) ∧ (a :: mwF f l many (gapsF a G)).Pairwise (· < ·)
  | [], a, _ => ⟨rfl, List.pairwise_singleton _ _⟩
  | (s, o) :: g, a, ⟨h1, h2, h3, h4⟩ => by
    obtain ⟨i1, i2⟩ := mw_ok f l many g o h4
    have e : mwF f l many (gapsF a ((s, o) :: g)) = srt (takF f l many a o (s - 1)) ++ o :: mwF f l many (gapsF o g) := by
      show (srt (takF f l many a o (s - 1)) ++ [o]) ++ mwF f l many (gapsF o g) = _
      rw [List.append_assoc]
      rfl
    rw [e]
    have hs : ∀ x ∈ srt (takF f l many a o (s - 1)), a < x ∧ x < o := fun x hx => tak_sub x ((srt_perm _).mem_iff.mp hx)
    refine ⟨⟨_, _, rfl, ?_, i1⟩, ?_⟩
    · rw [(srt_perm _).length_eq]
      exact tak_len (by omega) (by omega)
    · rw [List.pairwise_cons, List.pairwise_append]
      have i3 := List.pairwise_cons.mp i2
      refine ⟨fun x hx => ?_, srt_asc (tak_nodup f l a o (s - 1) many), i2, fun x hx y hy => ?_⟩
      · rcases List.mem_append.mp hx with h | h
        · exact (hs x h).1
        · rcases List.mem_cons.mp h with e | h
          · rw [e]; exact h1
          · have := i3.1 x h; omega
      · rcases List.mem_cons.mp hy with e | h
        · rw [e]; exact (hs x hx).2
        · have := i3.1 y h
          have := (hs x hx).2
          omega
def cnt (f l : Int) (p : List Int) : Nat := (p.filter (inB f l)).length
theorem cnt_app (f l : Int) (p q : List Int) : cnt f l (p ++ q) = cnt f l p + cnt f l q := by
  unfold cnt
  rw [List.filter_append, List.length_append]
theorem cnt_perm {f l : Int} {p q : List Int} (h : p.Perm q) : cnt f l p = cnt f l q := (h.filter _).length_eq
theorem cnt_out (f l : Int) (p : List Int) : cnt f l p + (p.filter (outB f l)).length = p.length := by
  unfold cnt
  have : p.filter (outB f l) = p.filter fun x => !inB f l x := List.filter_congr fun x _ => out_not
  rw [this, ← List.length_append]
  exact (List.filter_append_perm _ _).length_eq
theorem cnt_inn {f l a o : Int} {n : Nat} : cnt f l ((innF f l a o).take n) = ((innF f l a o).take n).length := by
  unfold cnt
  congr 1
  refine List.filter_eq_self.mpr fun x hx => ?_
  exact (List.mem_filter.mp (List.mem_of_mem_take hx)).2
theorem cnt_outT {f l a o : Int} {n : Nat} : cnt f l ((outF f l a o).take n) = 0 := by
  unfold cnt
  rw [List.length_eq_zero_iff]
  refine List.filter_eq_nil_iff.mpr fun x hx => ?_
  have := (List.mem_filter.mp (List.mem_of_mem_take hx)).2
  rw [out_not] at this
  simpa using this
/-- one gap: the least and the most that so many marks may have there -/
theorem gap_cnt {f l a o n : Int} {xs : List Int} (h : ∀ x ∈ xs, a < x ∧ x < o) (hn : xs.Nodup) (hl : (xs.length : Int) = n) :
    cnt f l (takF f l false a o n) ≤ cnt f l xs ∧ cnt f l xs ≤ cnt f l (takF f l true a o n) := by
  have hx : n.toNat = xs.length := by omega
  have hsub : ∀ (q : Int → Bool), (xs.filter q).length ≤ ((rgI (a + 1) o).filter q).length := fun q =>
    nodup_le (hn.sublist List.filter_sublist) fun x hx => by
      obtain ⟨h1, h2⟩ := List.mem_filter.mp hx
      have := h x h1
      exact List.mem_filter.mpr ⟨rgI_mem.mpr (by omega), h2⟩
  have hi := hsub (inB f l)
  have ho := hsub (outB f l)
  have hc := cnt_out f l xs
  constructor
  · have : cnt f l (takF f l false a o n) ≤ xs.length - (outF f l a o).length := by
      unfold takF
      rw [hx]
      show cnt f l ((outF f l a o ++ innF f l a o).take xs.length) ≤ _
      rw [List.take_append, cnt_app, cnt_outT, cnt_inn, List.length_take]
      omega
    show _ ≤ cnt f l xs
    have e : (outF f l a o).length = ((rgI (a + 1) o).filter (outB f l)).length := rfl
    omega
  · unfold takF
    rw [hx]
    show cnt f l xs ≤ cnt f l ((innF f l a o ++ outF f l a o).take xs.length)
    rw [List.take_append, cnt_app, cnt_outT, cnt_inn, List.length_take]
    have e : (innF f l a o).length = ((rgI (a + 1) o).filter (inB f l)).length := rfl
    have e2 : cnt f l xs = (xs.filter (inB f l)).length := rfl
    omega
theorem mw_cnt (f l : Int) : ∀ (G : List (Int × Int)) (a : Int) (p : List Int), BlA G p → (a :: p).Pairwise (· < ·) →
    cnt f l (mwF f l false (gapsF a G)) ≤ cnt f l p ∧ cnt f l p ≤ cnt f l (mwF f l true (gapsF a G))
  | [], a, p, hb, _ => by
    have : p = [] := hb
    subst this
    exact ⟨Nat.le_refl _, Nat.le_refl _⟩
  | (s, o) :: g, a, p, ⟨xs, p', e, hx, hb⟩, h => by
    subst e
    obtain ⟨h1, h2, h3, h4⟩ := asc_split h
    have ih := mw_cnt f l g o p' hb h4
    have hg := gap_cnt (f := f) (l := l) h1 h2 hx
    have e : ∀ many, cnt f l (mwF f l many (gapsF a ((s, o) :: g))) = cnt f l (takF f l many a o (s - 1)) + (cnt f l [o] + cnt f l (mwF f l many (gapsF o g))) := fun many => by
      show cnt f l ((srt (takF f l many a o (s - 1)) ++ [o]) ++ mwF f l many (gapsF o g)) = _
      rw [cnt_app, cnt_app, cnt_perm (srt_perm _)]
      omega
    have e2 : cnt f l (xs ++ o :: p') = cnt f l xs + (cnt f l [o] + cnt f l p') := by
      rw [show xs ++ o :: p' = xs ++ ([o] ++ p') from rfl, cnt_app, cnt_app]
    rw [e, e, e2]
    omega
/-! ### what is sure -/
def alwF (gs : List (T3 Int Int Int)) : List Int := gs.flatMap fun g => (if g.c = ((rgI (g.a + 1) g.b).length : Int) then rgI (g.a + 1) g.b else []) ++ [g.b]
def bareF (gs : List (T3 Int Int Int)) : List Int := gs.flatMap fun g => if g.c = ((rgI (g.a + 1) g.b).length : Int) then [] else if g.c = 0 then rgI (g.a + 1) g.b else []
def lastF : Int → List (Int × Int) → Int
  | a, [] => a
  | _, (_, o) :: g => lastF o g
def nevF (a now : Int) (G : List (Int × Int)) : List Int := bareF (gapsF a G) ++ rgI (lastF a G + 1) (now + 1)
theorem full_all {xs R : List Int} (hx : xs.Nodup) (h : ∀ x ∈ xs, x ∈ R) (hl : R.length ≤ xs.length) : ∀ r ∈ R, r ∈ xs := fun r hr => by
  by_cases q : r ∈ xs
  · exact q
  · have := nodup_le hx (m := R.erase r) fun x hx' => (List.mem_erase_of_ne (fun e => q (by rw [← e]; exact hx'))).mpr (h x hx')
    rw [List.length_erase_of_mem hr] at this
    have := List.length_pos_of_mem hr
    omega
theorem last_le : ∀ (G : List (Int × Int)) (a : Int) (p : List Int), BlA G p → (a :: p).Pairwise (· < ·) → (∀ x ∈ p, x ≤ lastF a G) ∧ a ≤ lastF a G
  | [], a, p, hb, _ => by
    have : p = [] := hb
    subst this
    exact ⟨by simp, Int.le_refl _⟩
  | (s, o) :: g, a, p, ⟨xs, p', e, hx, hb⟩, h => by
    subst e
    obtain ⟨h1, h2, h3, h4⟩ := asc_split h
    obtain ⟨i1, i2⟩ := last_le g o p' hb h4
    show (∀ x ∈ xs ++ o :: p', x ≤ lastF o g) ∧ a ≤ lastF o g
    refine ⟨fun x hx => ?_, by omega⟩
    rcases List.mem_append.mp hx with z | z
    · have := h1 x z; omega
    · rcases List.mem_cons.mp z with e | z
      · rw [e]; exact i2
      · exact i1 x z
theorem alw_cons (a s o : Int) (g : List (Int × Int)) : alwF (gapsF a ((s, o) :: g)) = (if s - 1 = ((rgI (a + 1) o).length : Int) then rgI (a + 1) o else []) ++ o :: alwF (gapsF o g) := by
  show ((if s - 1 = ((rgI (a + 1) o).length : Int) then rgI (a + 1) o else []) ++ [o]) ++ alwF (gapsF o g) = _
  rw [List.append_assoc]
  rfl
theorem bare_cons (a s o : Int) (g : List (Int × Int)) : bareF (gapsF a ((s, o) :: g)) = (if s - 1 = ((rgI (a + 1) o).length : Int) then [] else if s - 1 = 0 then rgI (a + 1) o else []) ++ bareF (gapsF o g) := rfl
theorem sure_in : ∀ (G : List (Int × Int)) (a : Int) (p : List Int), BlA G p → (a :: p).Pairwise (· < ·) → (∀ x ∈ alwF (gapsF a G), x ∈ p) ∧ (∀ x ∈ bareF (gapsF a G), x ∉ p ∧ a < x)
  | [], a, p, _, _ => ⟨fun x hx => by simp [alwF, gapsF] at hx, fun x hx => by simp [bareF, gapsF] at hx⟩
  | (s, o) :: g, a, p, ⟨xs, p', e, hx, hb⟩, h => by
    subst e
    obtain ⟨h1, h2, h3, h4⟩ := asc_split h
    obtain ⟨i1, i2⟩ := sure_in g o p' hb h4
    have hsub : ∀ x ∈ xs, x ∈ rgI (a + 1) o := fun x hx => rgI_mem.mpr (by have := h1 x hx; omega)
    rw [alw_cons, bare_cons]
    refine ⟨fun x hx' => ?_, fun x hx' => ?_⟩
    · rcases List.mem_append.mp hx' with z | z
      · split at z
        · rename_i e
          exact List.mem_append_left _ (full_all h2 hsub (by omega) x z)
        · simp at z
      · rcases List.mem_cons.mp z with e | z
        · rw [e]; exact List.mem_append_right _ List.mem_cons_self
        · exact List.mem_append_right _ (List.mem_cons_of_mem _ (i1 x z))
    · rcases List.mem_append.mp hx' with z | z
      · split at z
        · simp at z
        · split at z
          · rename_i e1 e2
            have hxs : xs = [] := List.length_eq_zero_iff.mp (by omega)
            have hz := rgI_mem.mp z
            refine ⟨fun q => ?_, by omega⟩
            rw [hxs, List.nil_append] at q
            rcases List.mem_cons.mp q with e | q
            · omega
            · have := (List.pairwise_cons.mp h4).1 x q
              omega
          · simp at z
      · obtain ⟨q1, q2⟩ := i2 x z
        refine ⟨fun q => ?_, by omega⟩
        rcases List.mem_append.mp q with y | y
        · have := h1 x y; omega
        · rcases List.mem_cons.mp y with e | y
          · omega
          · exact q1 y
theorem nev_out {G : List (Int × Int)} {a now : Int} {p : List Int} (hb : BlA G p) (h : (a :: p).Pairwise (· < ·)) : ∀ x ∈ nevF a now G, x ∉ p := fun x hx => by
  rcases List.mem_append.mp hx with z | z
  · exact ((sure_in G a p hb h).2 x z).1
  · intro q
    have := (last_le G a p hb h).1 x q
    have := rgI_mem.mp z
    omega
/-- who isn't always marked, isn't in the one with the fewest there -/
theorem not_always (t : Int) : ∀ (G : List (Int × Int)) (a : Int), GOk a G → t ∉ alwF (gapsF a G) → t ∉ mwF t t false (gapsF a G)
  | [], a, _, _ => by simp [mwF, gapsF]
  | (s, o) :: g, a, ⟨h1, h2, h3, h4⟩, hn => by
    rw [alw_cons, List.mem_append, not_or, List.mem_cons, not_or] at hn
    obtain ⟨n1, n2, n3⟩ := hn
    have ih := not_always t g o h4 n3
    intro hm
    have hm' : t ∈ (srt (takF t t false a o (s - 1)) ++ [o]) ++ mwF t t false (gapsF o g) := hm
    rw [List.mem_append, List.mem_append, List.mem_singleton] at hm'
    rcases hm' with (z | z) | z
    · have z1 := (srt_perm _).mem_iff.mp z
      have hR : t ∈ rgI (a + 1) o := rgI_mem.mpr (by have := tak_sub t z1; omega)
      have z2 : t ∈ (outF t t a o ++ innF t t a o).take (s - 1).toNat := z1
      rw [List.take_append, List.mem_append] at z2
      rcases z2 with y | y
      · have := (List.mem_filter.mp (List.mem_of_mem_take y)).2
        unfold outB at this
        simp at this
      · have hlen : (innF t t a o).length + (outF t t a o).length = (rgI (a + 1) o).length := by rw [← List.length_append]; exact (inn_out_perm t t a o).length_eq
        have hin : (innF t t a o).length ≤ 1 := by
          have : ∀ x ∈ innF t t a o, x ∈ [t] := fun x hx => by
            have := (List.mem_filter.mp hx).2
            unfold inB at this
            simp at this
            exact List.mem_singleton.mpr (by omega)
          have := nodup_le (show (innF t t a o).Nodup from (asc_nodup (rgI_asc _ _)).sublist List.filter_sublist) this
          simpa using this
        have hpos : 0 < (s - 1).toNat - (outF t t a o).length := by
          by_cases q : 0 < (s - 1).toNat - (outF t t a o).length
          · exact q
          · have : (s - 1).toNat - (outF t t a o).length = 0 := by omega
            rw [this] at y
            simp at y
        have hrl := rgI_len (a + 1) o
        rw [if_pos (by omega)] at n1
        exact n1 hR
    · exact n2 z
    · exact ih z
/-- who isn't never marked, is in the one with the most there -/
theorem not_never (t : Int) : ∀ (G : List (Int × Int)) (a : Int), GOk a G → a < t → t ≤ lastF a G → t ∉ bareF (gapsF a G) → t ∈ mwF t t true (gapsF a G)
  | [], a, _, h1, h2, _ => by
    have : t ≤ a := h2
    omega
  | (s, o) :: g, a, ⟨h1, h2, h3, h4⟩, ha, hl, hn => by
    rw [bare_cons, List.mem_append, not_or] at hn
    obtain ⟨n1, n2⟩ := hn
    show t ∈ (srt (takF t t true a o (s - 1)) ++ [o]) ++ mwF t t true (gapsF o g)
    rw [List.mem_append, List.mem_append, List.mem_singleton]
    by_cases q : t = o
    · exact .inl (.inr q)
    by_cases q2 : o < t
    · exact .inr (not_never t g o h4 q2 hl n2)
    have hR : t ∈ rgI (a + 1) o := rgI_mem.mpr (by omega)
    refine .inl (.inl ((srt_perm _).mem_iff.mpr ?_))
    have hrl := rgI_len (a + 1) o
    have hp := List.length_pos_of_mem hR
    have h0 : ¬ s - 1 = 0 := fun z => by
      rw [if_neg (by omega), if_pos z] at n1
      exact n1 hR
    have hi : innF t t a o = [t] := by
      have h1 : t ∈ innF t t a o := List.mem_filter.mpr ⟨hR, by unfold inB; simp⟩
      have h2 : ∀ x ∈ innF t t a o, x ∈ [t] := fun x hx => by
        have := (List.mem_filter.mp hx).2
        unfold inB at this
        simp at this
        exact List.mem_singleton.mpr (by omega)
      have h3 := nodup_le (show (innF t t a o).Nodup from (asc_nodup (rgI_asc _ _)).sublist List.filter_sublist) h2
      match hh : innF t t a o, h1, h2, h3 with
      | [x], h1, _, _ => rw [List.mem_singleton.mp h1]
      | [], h1, _, _ => simp at h1
      | x :: y :: r, _, _, h3 => simp at h3
    show t ∈ (innF t t a o ++ outF t t a o).take (s - 1).toNat
    rw [hi]
    obtain ⟨k, hk⟩ : ∃ k, (s - 1).toNat = k + 1 := ⟨(s - 1).toNat - 1, by omega⟩
    rw [hk]
    exact List.mem_cons_self
/-! ### a run is led again -/
/-- from the tick behind lo, n ticks on -/
def Lof (lo : Int) (n : Nat) (ts : List Int) (L : List (List Int)) : List (List Int) := (rng (lo + 1) n).foldl (fun L t => if t ∈ ts then insL t L else L) L
theorem rng_succ (lo : Int) (n : Nat) : rng lo (n + 1) = rng lo n ++ [lo + (n : Nat)] := by
  unfold rng
  rw [List.range_succ, List.map_append]
  rfl
theorem lof_succ (lo : Int) (n : Nat) (ts : List Int) (L : List (List Int)) : Lof lo (n + 1) ts L = (if (lo + 1 + (n : Nat)) ∈ ts then insL (lo + 1 + (n : Nat)) (Lof lo n ts L) else Lof lo n ts L) := by
  unfold Lof
  rw [rng_succ, List.foldl_append]
  rfl
theorem foldl_filter' {ζ η : Type} (q : ζ → Bool) (f : η → ζ → η) : ∀ (l : List ζ) (b : η), l.foldl (fun b x => if q x = true then f b x else b) b = (l.filter q).foldl f b
  | [], b => rfl
  | x :: l, b => by
    rw [List.foldl_cons, List.filter_cons]
    by_cases h : q x = true
    · rw [if_pos h, if_pos h, List.foldl_cons]
      exact foldl_filter' q f l _
    · rw [if_neg h, if_neg h]
      exact foldl_filter' q f l _
theorem rng_asc (lo : Int) (n : Nat) : (rng lo n).Pairwise (· < ·) := by
  unfold rng
  rw [List.pairwise_map]
  exact List.pairwise_lt_range.imp fun h => by omega
theorem lof_eq {lo : Int} {n : Nat} {ts : List Int} {L : List (List Int)} (hs : ts.Pairwise (· < ·)) (hb : ∀ t ∈ ts, lo < t ∧ t ≤ lo + n) : Lof lo n ts L = ts.foldl (fun L t => insL t L) L := by
  unfold Lof
  have h1 : (rng (lo + 1) n).filter (fun t => decide (t ∈ ts)) = ts := by
    have hp : ((rng (lo + 1) n).filter fun t => decide (t ∈ ts)).Perm ts := (List.perm_ext_iff_of_nodup ((asc_nodup (rng_asc _ _)).sublist List.filter_sublist) (asc_nodup hs)).mpr fun t => by
      rw [List.mem_filter, decide_eq_true_eq, rng_mem]
      exact ⟨fun h => h.2, fun h => ⟨by have := hb t h; omega, h⟩⟩
    exact hp.eq_of_pairwise (fun a b _ _ h h' => by omega) ((rng_asc _ _).sublist List.filter_sublist) hs
  have h2 := foldl_filter' (fun t => decide (t ∈ ts)) (fun L t => insL t L) (rng (lo + 1) n) L
  rw [h1] at h2
  rw [← h2]
  congr 1
  funext L t
  by_cases h : t ∈ ts
  · rw [if_pos h, if_pos (decide_eq_true h)]
  · rw [if_neg h, if_neg (by rw [decide_eq_true_eq]; exact h)]
/-- a row of ticks, rising, within 1 .. now -/
def Tks (now : Int) (p : List Int) : Prop := p.Pairwise (· < ·) ∧ ∀ t ∈ p, 0 < t ∧ t ≤ now
theorem Tks.asc {now : Int} {p : List Int} (h : Tks now p) : (0 :: p).Pairwise (· < ·) := List.pairwise_cons.mpr ⟨fun t ht => (h.2 t ht).1, h.1⟩
theorem Tks.nil (now : Int) : Tks now [] := ⟨.nil, by simp⟩
theorem Tks.app {now later : Int} {p q : List Int} (hp : Tks now p) (hq : q.Pairwise (· < ·)) (hb : ∀ t ∈ q, now < t ∧ t ≤ later) (h : 0 ≤ now) (h2 : now ≤ later) : Tks later (p ++ q) :=
  ⟨List.pairwise_append.mpr ⟨hp.1, hq, fun x hx y hy => by have := hp.2 x hx; have := hb y hy; omega⟩, fun t ht => by
    rcases List.mem_append.mp ht with z | z
    · have := hp.2 t z; omega
    · have := hb t z; omega⟩
theorem Tks.led {now : Nat} {p : List Int} (h : Tks now p) : Lof 0 now p [] = Lf p := lof_eq h.1 fun t ht => by have := h.2 t ht; omega
/-- the gaps of a run -/
def gapsL (L : List (List Int)) : List (T3 Int Int Int) := gapsF 0 (flat 1 L).reverse
/-- p may have been the past of L -/
structure Pst (now : Int) (L : List (List Int)) (p : List Int) : Prop where
  t : Tks now p
  l : Lf p = L
theorem Pst.ok {now : Int} {L : List (List Int)} {p : List Int} (h : Pst now L p) : LOk L := h.l ▸ lf_lok p
theorem Pst.bla {now : Int} {L : List (List Int)} {p : List Int} (h : Pst now L p) : BlA (flat 1 L).reverse p := (bla_rev _ _).mpr (h.l ▸ bl_lf p)
theorem Pst.gok {now : Int} {L : List (List Int)} {p : List Int} (h : Pst now L p) : GOk 0 (flat 1 L).reverse := gok_of _ 0 p h.bla h.t.asc
theorem Pst.last {now : Int} {L : List (List Int)} {p : List Int} (h : Pst now L p) (h0 : 0 ≤ now) : lastF 0 (flat 1 L).reverse ≤ now := by
  have : ∀ (G : List (Int × Int)) (a : Int) (q : List Int), BlA G q → a ≤ now → (∀ t ∈ q, t ≤ now) → lastF a G ≤ now := by
    intro G
    induction G with
    | nil => intro a q _ h1 _; exact h1
    | cons x g ih =>
      obtain ⟨s, o⟩ := x
      intro a q ⟨xs, p', e, hx, hb⟩ h1 h2
      subst e
      exact ih o p' hb (h2 o (List.mem_append_right _ List.mem_cons_self)) fun t ht => h2 t (List.mem_append_right _ (List.mem_cons_of_mem _ ht))
  exact this _ 0 p h.bla h0 fun t ht => (h.t.2 t ht).2
/-- the pasts that are told may have been -/
theorem Pst.mw {now : Int} {L : List (List Int)} {p : List Int} (h : Pst now L p) (h0 : 0 ≤ now) (f l : Int) (many : Bool) : Pst now L (mwF f l many (gapsL L)) := by
  obtain ⟨h1, h2⟩ := mw_ok f l many _ 0 h.gok
  have h3 := last_le _ 0 _ h1 h2
  have h4 := h.last h0
  refine ⟨⟨(List.pairwise_cons.mp h2).2, fun t ht => ⟨(List.pairwise_cons.mp h2).1 t ht, Int.le_trans (h3.1 t ht) h4⟩⟩, lf_of_bl h.ok ((bla_rev _ _).mp h1)⟩
theorem Pst.cnt {now : Int} {L : List (List Int)} {p : List Int} (h : Pst now L p) (f l : Int) : B.cnt f l (mwF f l false (gapsL L)) ≤ B.cnt f l p ∧ B.cnt f l p ≤ B.cnt f l (mwF f l true (gapsL L)) := mw_cnt f l _ 0 p h.bla h.t.asc
theorem Pst.alw {now : Int} {L : List (List Int)} {p : List Int} (h : Pst now L p) : ∀ x ∈ alwF (gapsL L), x ∈ p := (sure_in _ 0 p h.bla h.t.asc).1
theorem Pst.nev {now : Int} {L : List (List Int)} {p : List Int} (h : Pst now L p) : ∀ x ∈ nevF 0 now (flat 1 L).reverse, x ∉ p := nev_out h.bla h.t.asc
/-- led on by what was fed since -/
theorem Pst.on {now later : Int} {L : List (List Int)} {p q : List Int} (h : Pst now L p) (hq : q.Pairwise (· < ·)) (hb : ∀ t ∈ q, now < t ∧ t ≤ later) (h0 : 0 ≤ now) (h2 : now ≤ later) : Pst later (q.foldl (fun L t => insL t L) L) (p ++ q) :=
  ⟨h.t.app hq hb h0 h2, by
    unfold Lf
    rw [List.foldl_append]
    show q.foldl _ (Lf p) = _
    rw [h.l]⟩
/-- what is surely so later, was surely so ahead -/
theorem Pst.alw_back {now later : Int} {L : List (List Int)} {p q : List Int} (h : Pst now L p) (hq : q.Pairwise (· < ·)) (hb : ∀ t ∈ q, now < t ∧ t ≤ later) (h0 : 0 ≤ now) (h2 : now ≤ later) :
    ∀ t ∈ alwF (gapsL (q.foldl (fun L t => insL t L) L)), t ≤ now → t ∈ alwF (gapsL L) := fun t ht hn => by
  by_cases z : t ∈ alwF (gapsL L)
  · exact z
  · have h3 := not_always t _ 0 h.gok z
    have h4 := ((h.mw h0 t t false).on hq hb h0 h2).alw t ht
    rcases List.mem_append.mp h4 with y | y
    · exact absurd y h3
    · have := hb t y; omega
theorem Pst.nev_back {now later : Int} {L : List (List Int)} {p q : List Int} (h : Pst now L p) (hq : q.Pairwise (· < ·)) (hb : ∀ t ∈ q, now < t ∧ t ≤ later) (h0 : 0 ≤ now) (h2 : now ≤ later) :
    ∀ t ∈ nevF 0 later (flat 1 (q.foldl (fun L t => insL t L) L)).reverse, t ≤ now → t ∈ nevF 0 now (flat 1 L).reverse := fun t ht hn => by
  have ht0 : 0 < t := by
    rcases List.mem_append.mp ht with z | z
    · exact ((sure_in _ 0 _ (h.on hq hb h0 h2).bla (h.on hq hb h0 h2).t.asc).2 t z).2
    · have h1 := rgI_mem.mp z
      have h2 := (last_le _ 0 _ (h.on hq hb h0 h2).bla (h.on hq hb h0 h2).t.asc).2
      omega
  by_cases z : t ∈ nevF 0 now (flat 1 L).reverse
  · exact z
  · unfold nevF at z
    rw [List.mem_append, not_or, rgI_mem] at z
    have h3 := not_never t _ 0 h.gok ht0 (by omega) z.1
    have h4 := ((h.mw h0 t t true).on hq hb h0 h2).nev t ht
    exact absurd (List.mem_append_left _ h3) h4
end B
/-! law_k61: the mathematics -/
namespace B
open PySem.W (T3)
theorem flat_fst : ∀ (L : List (List Int)) (s : Int) (l : List Int), (flat s (l :: L)).map (·.1) = List.replicate l.length s ++ (flat (2 * s) L).map (·.1) := fun L s l => by
  show (l.map (fun x => (s, x)) ++ flat (2 * s) L).map (·.1) = _
  rw [List.map_append, List.map_map]
  congr 1
  exact List.eq_replicate_iff.mpr ⟨List.length_map .., fun b hb => by
    obtain ⟨x, _, rfl⟩ := List.mem_map.mp hb
    rfl⟩
theorem lf_len (p : List Int) : (Lf p).length ≤ p.length := by
  have := fold_len p []
  simpa [Lf] using this
theorem flat_lf (p : List Int) : (flat 1 (Lf p)).length ≤ 2 * p.length := by
  have h1 := flat_len (Lf p) 1 (lf_lok p)
  have h2 := lf_len p
  omega
theorem val_lf (p : List Int) : valL (Lf p) = p.length := by
  have := bl_val (Lf p) 1 p.reverse (lf_lok p) (Nat.le_refl _) (bl_lf p)
  rw [List.length_reverse] at this
  omega
theorem valL_pos {L : List (List Int)} (h : LOk L) (hz : valL L = 0) : L = [] := by
  cases L with
  | nil => rfl
  | cons l r =>
    have h1 := h l List.mem_cons_self
    have h2 : l.length + 2 * valL r = 0 := hz
    omega
/-- how many of the size s there are -/
theorem some_eq {l : List Int} {r : List (List Int)} {s : Nat} (h : LOk (l :: r)) (hs : 1 ≤ s) : (2 : Int) - ((s * valL (l :: r) : Nat) : Int) / (s : Int) % 2 = l.length := by
  have h1 := h l List.mem_cons_self
  have h2 : valL (l :: r) = l.length + 2 * valL r := rfl
  have h3 : ((s * valL (l :: r) : Nat) : Int) / (s : Int) = valL (l :: r) := by
    rw [Int.natCast_mul]
    exact Int.mul_ediv_cancel_left _ (by omega)
  rw [h3, h2]
  omega
theorem left_eq {l : List Int} {r : List (List Int)} {s : Nat} : ((s * valL (l :: r) : Nat) : Int) - (s : Int) * (l.length : Int) = ((2 * s * valL r : Nat) : Int) := by
  have h2 : valL (l :: r) = l.length + 2 * valL r := rfl
  rw [h2, Nat.mul_add, ← Nat.mul_assoc, Nat.mul_comm s 2, Int.natCast_add, Int.natCast_mul s]
  omega
def tl0 : List (Int × Int) → Int
  | [] => 0
  | (_, o) :: _ => o
/-- the gaps, the newest first -/
def gapsR : List (Int × Int) → List (T3 Int Int Int)
  | [] => []
  | (s, o) :: g => ⟨tl0 g, o, s - 1⟩ :: gapsR g
theorem gapsF_app (s o : Int) : ∀ (g : List (Int × Int)) (a : Int), gapsF a (g ++ [(s, o)]) = gapsF a g ++ [⟨lastF a g, o, s - 1⟩] ∧ lastF a (g ++ [(s, o)]) = o
  | [], a => ⟨rfl, rfl⟩
  | (s', o') :: g, a => by
    obtain ⟨h1, h2⟩ := gapsF_app s o g o'
    refine ⟨?_, h2⟩
    show (⟨a, o', s' - 1⟩ : T3 Int Int Int) :: gapsF o' (g ++ [(s, o)]) = _
    rw [h1]
    rfl
theorem gaps_rev : ∀ G : List (Int × Int), gapsF 0 G.reverse = (gapsR G).reverse ∧ lastF 0 G.reverse = tl0 G
  | [] => ⟨rfl, rfl⟩
  | (s, o) :: G => by
    obtain ⟨h1, h2⟩ := gaps_rev G
    obtain ⟨h3, h4⟩ := gapsF_app s o G.reverse 0
    rw [List.reverse_cons, h3, h4, h1, h2]
    refine ⟨?_, rfl⟩
    show _ = ((⟨tl0 G, o, s - 1⟩ : T3 Int Int Int) :: gapsR G).reverse
    rw [List.reverse_cons]
theorem gapsR_len : ∀ G : List (Int × Int), (gapsR G).length = G.length
  | [] => rfl
  | (s, o) :: G => by
    show (gapsR G).length + 1 = G.length + 1
    rw [gapsR_len G]
/-- the i-th, and the last tick of the one behind it -/
theorem gapsR_at : ∀ (G : List (Int × Int)) (i : Nat) (s o : Int), G[i]? = some (s, o) → ∃ a, (gapsR G)[i]? = some ⟨a, o, s - 1⟩ ∧ (G.map (·.2) ++ [0])[i + 1]? = some a
  | [], i, s, o, h => by simp at h
  | (s', o') :: G, 0, s, o, h => by
    have e : (s', o') = (s, o) := by simpa using h
    cases e
    refine ⟨tl0 G, rfl, ?_⟩
    cases G with
    | nil => rfl
    | cons x g => rfl
  | (s', o') :: G, i + 1, s, o, h => by
    obtain ⟨a, h1, h2⟩ := gapsR_at G i s o (by simpa using h)
    refine ⟨a, ?_, ?_⟩
    · show ((⟨tl0 G, o', s' - 1⟩ : T3 Int Int Int) :: gapsR G)[i + 1]? = _
      rw [List.getElem?_cons_succ]
      exact h1
    · show (o' :: (G.map (·.2) ++ [0]))[i + 1 + 1]? = _
      rw [List.getElem?_cons_succ]
      exact h2
/-- how many of a gap lie within f .. l -/
def insI (f l a o : Int) : Int := (innF f l a o).length
theorem insI_eq (f l a o : Int) : insI f l a o = max 0 (min l (o - 1) - max f (a + 1) + 1) := by
  have e : innF f l a o = rgI (max f (a + 1)) (min l (o - 1) + 1) := by
    refine asc_uniq ((rgI_asc _ _).sublist List.filter_sublist) (rgI_asc _ _) fun k => ?_
    unfold innF
    rw [List.mem_filter, rgI_mem, rgI_mem]
    unfold inB
    rw [Bool.and_eq_true, decide_eq_true_eq, decide_eq_true_eq]
    omega
  unfold insI
  rw [e, rgI_len]
  omega
def ownI (f l o : Int) : Int := if f ≤ o ∧ o ≤ l then 1 else 0
def loI (f l : Int) (g : T3 Int Int Int) : Int := ownI f l g.b + max 0 (g.c - ((g.b - g.a - 1) - insI f l g.a g.b))
def hiI (f l : Int) (g : T3 Int Int Int) : Int := ownI f l g.b + min g.c (insI f l g.a g.b)
def endI (f l : Int) (many : Bool) (g : T3 Int Int Int) : Int := if many then hiI f l g else loI f l g
def sumI (q : T3 Int Int Int → Int) (gs : List (T3 Int Int Int)) : Int := gs.foldl (fun n g => n + q g) 0
theorem sumI_from (q : T3 Int Int Int → Int) : ∀ (gs : List (T3 Int Int Int)) (n : Int), gs.foldl (fun n g => n + q g) n = n + sumI q gs
  | [], n => by show n = n + 0; omega
  | g :: gs, n => by
    show gs.foldl _ (n + q g) = n + gs.foldl _ (0 + q g)
    rw [sumI_from q gs, sumI_from q gs]
    omega
theorem sumI_cons (q : T3 Int Int Int → Int) (g : T3 Int Int Int) (gs : List (T3 Int Int Int)) : sumI q (g :: gs) = q g + sumI q gs := by
  show gs.foldl _ (0 + q g) = _
  rw [sumI_from]
  omega
theorem sumI_app (q : T3 Int Int Int → Int) (gs hs : List (T3 Int Int Int)) : sumI q (gs ++ hs) = sumI q gs + sumI q hs := by
  unfold sumI
  rw [List.foldl_append, sumI_from]
  rfl
theorem sumI_rev (q : T3 Int Int Int → Int) : ∀ gs : List (T3 Int Int Int), sumI q gs.reverse = sumI q gs
  | [] => rfl
  | g :: gs => by
    rw [List.reverse_cons, sumI_app, sumI_rev q gs, sumI_cons, sumI_cons]
    have e : sumI q [] = 0 := rfl
    omega
theorem own_cnt (f l o : Int) : ((cnt f l [o] : Nat) : Int) = ownI f l o := by
  unfold cnt ownI
  by_cases h : f ≤ o ∧ o ≤ l
  · rw [if_pos h, List.filter_cons, if_pos (by unfold inB; simp; omega)]
    rfl
  · rw [if_neg h, List.filter_cons, if_neg (by unfold inB; simp; omega)]
    rfl
theorem tak_cnt {f l a o n : Int} (many : Bool) (h0 : 0 ≤ n) (h : n ≤ o - a - 1) : ((cnt f l (takF f l many a o n) : Nat) : Int) = if many then min n (insI f l a o) else max 0 (n - ((o - a - 1) - insI f l a o)) := by
  have hp := (inn_out_perm f l a o).length_eq
  rw [List.length_append, rgI_len] at hp
  unfold takF insI
  cases many with
  | true =>
    show ((cnt f l ((innF f l a o ++ outF f l a o).take n.toNat) : Nat) : Int) = min n _
    rw [List.take_append, cnt_app, cnt_outT, cnt_inn, List.length_take]
    omega
  | false =>
    show ((cnt f l ((outF f l a o ++ innF f l a o).take n.toNat) : Nat) : Int) = max 0 (n - ((o - a - 1) - _))
    rw [List.take_append, cnt_app, cnt_outT, cnt_inn, List.length_take]
    omega
theorem mw_sum (f l : Int) (many : Bool) : ∀ (G : List (Int × Int)) (a : Int), GOk a G → ((cnt f l (mwF f l many (gapsF a G)) : Nat) : Int) = sumI (endI f l many) (gapsF a G)
  | [], a, _ => rfl
  | (s, o) :: g, a, ⟨h1, h2, h3, h4⟩ => by
    have ih := mw_sum f l many g o h4
    have e : cnt f l (mwF f l many (gapsF a ((s, o) :: g))) = cnt f l (takF f l many a o (s - 1)) + (cnt f l [o] + cnt f l (mwF f l many (gapsF o g))) := by
      show cnt f l ((srt (takF f l many a o (s - 1)) ++ [o]) ++ mwF f l many (gapsF o g)) = _
      rw [cnt_app, cnt_app, cnt_perm (srt_perm _)]
      omega
    have e2 : gapsF a ((s, o) :: g) = ⟨a, o, s - 1⟩ :: gapsF o g := rfl
    rw [e, e2, sumI_cons, ← ih, Int.natCast_add, Int.natCast_add, own_cnt, tak_cnt many (by omega) (by omega)]
    cases many with
    | true =>
      show min (s - 1) (insI f l a o) + _ = (ownI f l o + min (s - 1) (insI f l a o)) + _
      omega
    | false =>
      show max 0 ((s - 1) - ((o - a - 1) - insI f l a o)) + _ = (ownI f l o + max 0 ((s - 1) - ((o - a - 1) - insI f l a o))) + _
      omega
theorem Pst.ends {now : Int} {L : List (List Int)} {p : List Int} (h : Pst now L p) (f l : Int) (many : Bool) : ((B.cnt f l (mwF f l many (gapsL L)) : Nat) : Int) = sumI (endI f l many) (gapsR (flat 1 L)) := by
  have h1 := mw_sum f l many _ 0 h.gok
  have h2 := (gaps_rev (flat 1 L)).1
  unfold gapsL
  rw [h1, h2, sumI_rev]
theorem Pst.len {now : Int} {L : List (List Int)} {p : List Int} (h : Pst now L p) : p.length = valL L := by
  rw [← h.l, val_lf]
theorem cnt_part {now e : Int} {p : List Int} (h : Tks now p) (h1 : 0 ≤ e) (h2 : e ≤ now) : B.cnt 1 e p + B.cnt (e + 1) now p = p.length := by
  have e1 : B.cnt (e + 1) now p = (p.filter (outB 1 e)).length := by
    unfold B.cnt
    congr 1
    refine List.filter_congr fun x hx => ?_
    have := h.2 x hx
    unfold inB outB
    rw [Bool.eq_iff_iff, Bool.and_eq_true, Bool.or_eq_true, decide_eq_true_eq, decide_eq_true_eq, decide_eq_true_eq, decide_eq_true_eq]
    omega
  rw [e1]
  exact cnt_out 1 e p
theorem cnt_all {now : Int} {p : List Int} (h : Tks now p) : B.cnt 1 now p = p.length := by
  unfold B.cnt
  congr 1
  refine List.filter_eq_self.mpr fun x hx => ?_
  have := h.2 x hx
  unfold inB
  simp
  omega
/-- the least up to e and the most behind it come to all -/
theorem Pst.compl {now e : Int} {L : List (List Int)} {p : List Int} (h : Pst now L p) (h0 : 0 ≤ now) (h1 : 0 ≤ e) (h2 : e ≤ now) (many : Bool) : B.cnt 1 e (mwF 1 e many (gapsL L)) + B.cnt (e + 1) now (mwF (e + 1) now (!many) (gapsL L)) = p.length := by
  have a := h.mw h0 1 e many
  have b := h.mw h0 (e + 1) now (!many)
  have a1 := cnt_part a.t h1 h2
  have b1 := cnt_part b.t h1 h2
  have a2 := a.cnt (e + 1) now
  have b2 := b.cnt 1 e
  have la := a.len
  have lb := b.len
  have lp := h.len
  cases many with
  | true =>
    have a2 := a2.1
    have b2 := b2.2
    rw [Bool.not_true] at *
    omega
  | false =>
    have a2 := a2.2
    have b2 := b2.1
    rw [Bool.not_false] at *
    omega
theorem cnt_one {t : Int} : ∀ {p : List Int}, p.Pairwise (· < ·) → B.cnt t t p = if t ∈ p then 1 else 0 := fun {p} hp => by
  have hn := asc_nodup hp
  have hf : ∀ x ∈ p.filter (inB t t), x = t := fun x hx => by
    have := (List.mem_filter.mp hx).2
    unfold inB at this
    simp at this
    omega
  unfold B.cnt
  by_cases h : t ∈ p
  · rw [if_pos h]
    have hm : t ∈ p.filter (inB t t) := List.mem_filter.mpr ⟨h, by unfold inB; simp⟩
    have h1 := nodup_le (hn.sublist (List.filter_sublist (p := inB t t))) (m := [t]) fun x hx => List.mem_singleton.mpr (hf x hx)
    have h2 := List.length_pos_of_mem hm
    rw [List.length_singleton] at h1
    omega
  · rw [if_neg h, List.length_eq_zero_iff]
    exact List.filter_eq_nil_iff.mpr fun x hx z => h (by
      have := hf x (List.mem_filter.mpr ⟨hx, z⟩)
      rw [← this]; exact hx)
/-- one tick: the least, the most -/
theorem Pst.one {now t : Int} {L : List (List Int)} {p : List Int} (h : Pst now L p) (h0 : 0 ≤ now) (h1 : 0 < t) (h2 : t ≤ now) :
    B.cnt t t (mwF t t false (gapsL L)) = (if t ∈ alwF (gapsL L) then 1 else 0) ∧ B.cnt t t (mwF t t true (gapsL L)) = (if t ∉ nevF 0 now (flat 1 L).reverse then 1 else 0) := by
  have a := h.mw h0 t t false
  have b := h.mw h0 t t true
  rw [cnt_one a.t.1, cnt_one b.t.1]
  constructor
  · by_cases q : t ∈ alwF (gapsL L)
    · rw [if_pos q, if_pos (a.alw t q)]
    · have e : t ∉ mwF t t false (gapsL L) := not_always t _ 0 h.gok q
      rw [if_neg q, if_neg e]
  · by_cases q : t ∈ nevF 0 now (flat 1 L).reverse
    · have e : t ∉ mwF t t true (gapsL L) := b.nev t q
      rw [if_neg e, if_neg (Decidable.not_not.mpr q)]
    · rw [if_pos q, if_pos]
      unfold nevF at q
      rw [List.mem_append, not_or, rgI_mem] at q
      exact not_never t _ 0 h.gok h1 (by omega) q.1
theorem Tks.ends {now : Int} {p : List Int} (h : Tks now p) (hp : p ≠ []) : ∃ x y, p[0]? = some x ∧ p[p.length - 1]? = some y ∧ 1 ≤ x ∧ x ≤ y ∧ y ≤ now := by
  have hl : 0 < p.length := List.length_pos_iff.mpr hp
  refine ⟨p[0], p[p.length - 1], List.getElem?_eq_getElem hl, List.getElem?_eq_getElem (by omega), ?_, ?_, ?_⟩
  · have := h.2 p[0] (List.getElem_mem hl)
    omega
  · by_cases q : p.length = 1
    · have : p.length - 1 = 0 := by omega
      simp only [this]
      exact Int.le_refl _
    · have := List.pairwise_iff_getElem.mp h.1 0 (p.length - 1) hl (by omega) (by omega)
      omega
  · exact (h.2 _ (List.getElem_mem _)).2
end B
/-! k58: groups as lists of marked ticks -/
namespace B
open PySem L2
def insG : List Int → List (List (List Int)) → List (List (List Int))
  | t, [] => [[t]]
  | t, [a] :: r => [t, a] :: r
  | t, [a, b] :: r => [t] :: insG (b ++ a) r
  | t, _ :: r => [t] :: r
def ZOk (Z : List (List (List Int))) : Prop := ∀ l ∈ Z, l.length = 1 ∨ l.length = 2
/-- at each level groups of twice as many -/
def SzG : Nat → List (List (List Int)) → Prop
  | _, [] => True
  | s, l :: r => (∀ g ∈ l, g.length = s) ∧ SzG (2 * s) r
def top (g : List Int) : Int := g.getLastD 0
def tops (Z : List (List (List Int))) : List (List Int) := Z.map (List.map top)
theorem top_app {a b : List Int} (h : a ≠ []) : top (b ++ a) = top a := by
  unfold top
  rw [List.getLastD_eq_getLast?, List.getLastD_eq_getLast?, List.getLast?_append, List.getLast?_eq_some_getLast h]
  rfl
theorem zok_ins : ∀ (Z : List (List (List Int))) (t : List Int), ZOk Z → ZOk (insG t Z)
  | [], t, _ => fun l h => by rw [List.mem_singleton.mp h]; exact .inl rfl
  | [] :: r, t, h => by
    have := h [] List.mem_cons_self
    simp at this
  | [a] :: r, t, h => fun l hl => by
    rcases List.mem_cons.mp hl with e | e
    · rw [e]; exact .inr rfl
    · exact h l (List.mem_cons_of_mem _ e)
  | [a, b] :: r, t, h => fun l hl => by
    rcases List.mem_cons.mp hl with e | e
    · rw [e]; exact .inl rfl
    · exact zok_ins r _ (fun x hx => h x (List.mem_cons_of_mem _ hx)) l e
  | (a :: b :: c :: d) :: r, t, h => by
    have := h _ List.mem_cons_self
    simp at this
theorem sz_ins : ∀ (Z : List (List (List Int))) (s : Nat) (t : List Int), SzG s Z → t.length = s → SzG s (insG t Z)
  | [], s, t, _, ht => ⟨fun g hg => by rw [List.mem_singleton.mp hg]; exact ht, True.intro⟩
  | [] :: r, s, t, h, ht => ⟨fun g hg => by rw [List.mem_singleton.mp hg]; exact ht, h.2⟩
  | [a] :: r, s, t, h, ht => ⟨fun g hg => by
    rcases List.mem_cons.mp hg with e | e
    · rw [e]; exact ht
    · exact h.1 g e, h.2⟩
  | [a, b] :: r, s, t, h, ht => ⟨fun g hg => by rw [List.mem_singleton.mp hg]; exact ht, sz_ins r (2 * s) _ h.2 (by
    have h1 := h.1 a (by simp)
    have h2 := h.1 b (by simp)
    rw [List.length_append]; omega)⟩
  | (a :: b :: c :: d) :: r, s, t, h, ht => ⟨fun g hg => by rw [List.mem_singleton.mp hg]; exact ht, h.2⟩
theorem tops_ins : ∀ (Z : List (List (List Int))) (s : Nat) (t : List Int), 1 ≤ s → SzG s Z → tops (insG t Z) = insL (top t) (tops Z)
  | [], s, t, _, _ => rfl
  | [] :: r, s, t, _, _ => rfl
  | [a] :: r, s, t, _, _ => rfl
  | [a, b] :: r, s, t, hs, h => by
    show [top t] :: tops (insG (b ++ a) r) = [top t] :: insL (top a) (tops r)
    rw [tops_ins r (2 * s) _ (by omega) h.2, top_app (fun z => by
      have := h.1 a (by simp)
      rw [z] at this
      simp at this
      omega)]
  | (a :: b :: c :: d) :: r, s, t, _, _ => rfl
theorem flat_tops : ∀ (Z : List (List (List Int))) (s : Nat), SzG s Z → Z.flatten.map (fun g => ((g.length : Int), top g)) = flat s (tops Z)
  | [], s, _ => rfl
  | l :: r, s, h => by
    show ((l ++ r.flatten).map _) = (l.map top).map (fun x => ((s : Int), x)) ++ flat (2 * (s : Int)) (tops r)
    rw [List.map_append, List.map_map]
    congr 1
    · exact List.map_congr_left fun g hg => by show ((g.length : Int), top g) = ((s : Int), top g); rw [h.1 g hg]
    · have := flat_tops r (2 * s) h.2
      rw [this]
      congr 1
/-- all marked ticks, behind the groups -/
def allG (Z : List (List (List Int))) : List Int := Z.flatten.reverse.flatten
theorem all_cons (l : List (List Int)) (r : List (List (List Int))) : allG (l :: r) = allG r ++ l.reverse.flatten := by
  unfold allG
  rw [List.flatten_cons, List.reverse_append, List.flatten_append]
theorem all_ins : ∀ (Z : List (List (List Int))) (t : List Int), allG (insG t Z) = allG Z ++ t ∨ ¬ ZOk Z
  | [], t => .inl (by simp [insG, allG])
  | [] :: r, t => .inr fun h => by
    have := h [] List.mem_cons_self
    simp at this
  | [a] :: r, t => .inl (by rw [insG, all_cons, all_cons]; simp)
  | [a, b] :: r, t => by
    rcases all_ins r (b ++ a) with h | h
    · exact .inl (by rw [insG, all_cons, all_cons, h]; simp)
    · exact .inr fun z => h fun l hl => z l (List.mem_cons_of_mem _ hl)
  | (a :: b :: c :: d) :: r, t => .inr fun h => by
    have := h _ List.mem_cons_self
    simp at this
/-- the marked ticks -/
def marksF (bs : List Bool) : List Int := (((rng 0 bs.length).zip bs).filter (·.2)).map fun q => q.1 + 1
theorem marks_snoc (bs : List Bool) (b : Bool) : marksF (bs ++ [b]) = marksF bs ++ if b then [((bs.length + 1 : Nat) : Int)] else [] := by
  unfold marksF
  have hl : (rng 0 bs.length).length = bs.length := rng_len _ _
  rw [List.length_append, List.length_singleton, rng_succ, List.zip_append hl, List.filter_append, List.map_append]
  congr 1
  cases b
  · simp
  · simp
theorem marks_tks : ∀ (bs : List Bool), Tks (bs.length : Nat) (marksF bs) := by
  intro bs
  unfold marksF
  refine ⟨?_, fun t ht => ?_⟩
  · rw [List.pairwise_map]
    have h1 : ((rng 0 bs.length).zip bs).Pairwise fun a b => a.1 < b.1 := by
      have h2 := rng_asc 0 bs.length
      rw [← List.map_fst_zip (l₁ := rng 0 bs.length) (l₂ := bs) (by rw [rng_len]; exact Nat.le_refl _)] at h2
      exact List.pairwise_map.mp h2
    exact (h1.sublist (List.filter_sublist)).imp fun h => by omega
  · obtain ⟨q, hq, rfl⟩ := List.mem_map.mp ht
    have := (List.of_mem_zip (List.mem_filter.mp hq).1).1
    have := rng_mem.mp this
    omega
/-- the groups that such marks leave -/
def Zf (p : List Int) : List (List (List Int)) := p.foldl (fun Z t => insG [t] Z) []
theorem zf_snoc (p : List Int) (t : Int) : Zf (p ++ [t]) = insG [t] (Zf p) := by unfold Zf; rw [List.foldl_append]; rfl
theorem lf_snoc (p : List Int) (t : Int) : Lf (p ++ [t]) = insL t (Lf p) := by unfold Lf; rw [List.foldl_append]; rfl
structure ZfOk (p : List Int) (Z : List (List (List Int))) : Prop where
  ok : ZOk Z
  sz : SzG 1 Z
  tp : tops Z = Lf p
  al : allG Z = p
theorem zf_ok_step {p : List Int} {Z : List (List (List Int))} (h : ZfOk p Z) (t : Int) : ZfOk (p ++ [t]) (insG [t] Z) := ⟨zok_ins _ _ h.ok, sz_ins _ 1 _ h.sz rfl, by rw [tops_ins _ 1 _ (Nat.le_refl 1) h.sz, h.tp, lf_snoc]; rfl, by
  rcases all_ins Z [t] with e | e
  · rw [e, h.al]
  · exact absurd h.ok e⟩
theorem zf_ok (p : List Int) : ZfOk p (Zf p) := by
  have main : ∀ (q p : List Int) (Z : List (List (List Int))), ZfOk p Z → ZfOk (p ++ q) (q.foldl (fun Z t => insG [t] Z) Z) := by
    intro q
    induction q with
    | nil => intro p Z h; rw [List.append_nil]; exact h
    | cons t q ih =>
      intro p Z h
      have := ih (p ++ [t]) _ (zf_ok_step h t)
      rw [List.append_assoc] at this
      exact this
  have := main p [] [] ⟨fun l h => by simp at h, True.intro, rfl, rfl⟩
  rwa [List.nil_append] at this
/-- each group rises -/
theorem zf_rise {p : List Int} {Z : List (List (List Int))} (h : ZfOk p Z) (hp : p.Pairwise (· < ·)) : ∀ g ∈ Z.flatten, g.Pairwise (· < ·) := fun g hg => by
  have e := h.al
  unfold allG at e
  rw [← e] at hp
  exact (List.pairwise_flatten.mp hp).1 g (List.mem_reverse.mpr hg)
theorem zf_ne {s : Nat} : ∀ {Z : List (List (List Int))}, SzG s Z → 1 ≤ s → ∀ g ∈ Z.flatten, g ≠ []
  | [], _, _, g, hg => by simp at hg
  | l :: r, h, hs, g, hg => by
    rcases List.mem_append.mp (by rwa [List.flatten_cons] at hg) with z | z
    · intro e
      have := h.1 g z
      rw [e] at this
      simp at this
      omega
    · exact zf_ne (s := 2 * s) h.2 (by omega) g z
theorem zf_ge {s : Nat} : ∀ {Z : List (List (List Int))}, SzG s Z → ∀ g ∈ Z.flatten, s ≤ g.length
  | [], _, g, hg => by simp at hg
  | l :: r, h, g, hg => by
    rcases List.mem_append.mp (by rwa [List.flatten_cons] at hg) with z | z
    · rw [h.1 g z]; exact Nat.le_refl _
    · have := zf_ge (s := 2 * s) h.2 g z
      omega
theorem top_max {g : List Int} (hp : g.Pairwise (· < ·)) (hn : g ≠ []) : top g ∈ g ∧ ∀ y ∈ g, y ≤ top g := by
  have e : top g = g.getLast hn := by
    unfold top
    rw [List.getLastD_eq_getLast?, List.getLast?_eq_some_getLast hn]
    rfl
  rw [e]
  refine ⟨List.getLast_mem hn, fun y hy => ?_⟩
  rcases List.mem_iff_getElem.mp hy with ⟨i, hi, rfl⟩
  rw [List.getLast_eq_getElem]
  by_cases c : i = g.length - 1
  · simp [c]
  · exact Int.le_of_lt (List.pairwise_iff_getElem.mp hp i (g.length - 1) hi (by omega) (by omega))
theorem sz_geF : ∀ (R : List (List Int)) (s : Int), 1 ≤ s → ∀ q ∈ flat s R, s ≤ q.1
  | [], s, _, q, h => by simp [flat] at h
  | l :: r, s, hs, q, h => by
    rcases List.mem_append.mp h with z | z
    · obtain ⟨x, _, rfl⟩ := List.mem_map.mp z
      exact Int.le_refl _
    · have := sz_geF r (2 * s) (by omega) q z
      omega
/-- the sizes rise, each stands twice at most -/
theorem sizes_rise : ∀ (L : List (List Int)) (s : Int), 1 ≤ s → ((flat s L).map (·.1)).Pairwise (· ≤ ·)
  | [], s, _ => .nil
  | l :: r, s, hs => by
    show ((l.map (fun x => (s, x)) ++ flat (2 * s) r).map (·.1)).Pairwise (· ≤ ·)
    rw [List.map_append, List.pairwise_append]
    refine ⟨?_, sizes_rise r (2 * s) (by omega), fun a ha b hb => ?_⟩
    · rw [List.map_map]
      clear hs
      induction l with
      | nil => exact .nil
      | cons x l ih => exact .cons (fun y hy => by obtain ⟨z, _, rfl⟩ := List.mem_map.mp hy; exact Int.le_refl _) ih
    · rw [List.map_map] at ha
      obtain ⟨x, _, rfl⟩ := List.mem_map.mp ha
      obtain ⟨q, hq, rfl⟩ := List.mem_map.mp hb
      have := sz_geF r (2 * s) (by omega) q hq
      show s ≤ q.1
      omega
theorem sizes_two : ∀ (L : List (List Int)) (s : Int), 1 ≤ s → LOk L → ∀ z : Int, ((flat s L).map (·.1)).countP (fun y => decide (y = z)) ≤ 2
  | [], s, _, _, z => by simp [flat]
  | l :: r, s, hs, h, z => by
    show ((l.map (fun x => (s, x)) ++ flat (2 * s) r).map (·.1)).countP _ ≤ 2
    rw [List.map_append, List.countP_append, List.map_map]
    have hl := h l List.mem_cons_self
    have c1 : (l.map ((fun q : Int × Int => q.1) ∘ fun x => (s, x))).countP (fun y => decide (y = z)) ≤ 2 := Nat.le_trans List.countP_le_length (by rw [List.length_map]; omega)
    by_cases e : s = z
    · have c2 : ((flat (2 * s) r).map (·.1)).countP (fun y => decide (y = z)) = 0 := by
        rw [List.countP_eq_zero]
        intro y hy
        obtain ⟨q, hq, rfl⟩ := List.mem_map.mp hy
        have := sz_geF r (2 * s) (by omega) q hq
        simp
        omega
      omega
    · have c1 : (l.map ((fun q : Int × Int => q.1) ∘ fun x => (s, x))).countP (fun y => decide (y = z)) = 0 := by
        rw [List.countP_eq_zero]
        intro y hy
        obtain ⟨x, _, rfl⟩ := List.mem_map.mp hy
        simpa using e
      have := sizes_two r (2 * s) (by omega) (fun x hx => h x (List.mem_cons_of_mem _ hx)) z
      omega
/-- the place of the first tick that is none there -/
def wrongAt (now : Int) : Int → List Odd → Option Nat
  | _, [] => none
  | a, .int t :: os => if a < t ∧ t ≤ now then (wrongAt now t os).map (· + 1) else some 0
  | _, _ :: _ => some 0
end B
/-! BY: a set made of a list, by what its filling promises -/
namespace BY
open PySem PySem.Spec PyProof.Rows L2
section
variable {P : Program} {w : World} {A : Around} {E : Value → Shared → Prop} {s : Shared}
abbrev set0 (w : World) : Obj := { cls := .type "set", dict := none, data := .set #[] 0 (.fresh 0 0 (!w.params.followText "set-order")) }
abbrev it0 (l : Addr) : Obj := { cls := .type "list_iterator", data := .fields #[.ref l, .int 0 0] }
set_option maxHeartbeats 8000000 in
theorem set_of_list {l : Addr} {items : Array Value} {Q : Value → Shared → Prop} {Pz : Heap → Nat → Prop} (hl : s.heap.IsList l items)
    (hloop : ∀ R : Result → Shared → Prop, (∀ h' tk, Pz h' tk → R (.ok (.ret .none)) { s with heap := h', toks := tk }) →
      codeAny (model P w) A.in1.in1 (.builtin "set.update.loop" ⟨[.ref s.heap.objs.size, .ref (s.heap.push (set0 w)).objs.size], []⟩) R { s with heap := (s.heap.push (set0 w)).push (it0 l) })
    (h : ∀ h' tk, Pz h' tk → Q (.ref s.heap.objs.size) { s with heap := h', toks := tk }) : wpAny (model P w) A (call (.type "set") [.ref l]) Q E s := by
  obtain ⟨c, tl, hmro⟩ := F.called_set.mro
  have i1 := F.called_set.made
  have i2 := F.called_set.sub
  have i3 := F.called_set.notType
  have i4 := F.called_set.canCreate
  have i5 := F.typeCall_set_1 (.ref l)
  refine wpAny_call (codeAny_of_tree ?_)
  show wpAny _ _ (callAny (.type "set") _) _ _ _
  refine wpAny_pure ⟨Code.quiet_builtin _ (by decide +kernel), codeAny_builtin F.entry_type_call ?_⟩
  rw [Around.under_plain (weight_type_call_type "set" [.ref l] []) rfl]
  repeat (any_goals (first | assumption | wp_step))
  refine codeAny_mono (code_set_led1 (.ref l) (E := E) (Q₁ := fun x t => x = .ref s.heap.objs.size ∧ t = { s with heap := s.heap.push (set0 w) }) ⟨rfl, rfl⟩) fun r t hr => ?_
  match r, hr with
  | .error e, hr => exact hr
  | .ok .next, hr => exact hr.elim
  | .ok .brk, hr => exact hr.elim
  | .ok .cont, hr => exact hr.elim
  | .ok (.ret x), hr =>
    obtain ⟨rfl, rfl⟩ := hr
    have at0 : (s.heap.push (set0 w)).get? s.heap.objs.size = some (set0 w) := Heap.get?_push_size _ rfl
    have ty0 : Shared.TypeIs { s with heap := s.heap.push (set0 w) } (.ref s.heap.objs.size) "set" := ⟨_, at0, rfl⟩
    have j1 := F.called_set.init.lookup
    have j2 := F.called_set.init.bind (.ref s.heap.objs.size)
    repeat (any_goals (first | assumption | wp_step))
    refine codeAny_mono (codeAny_call_builtin (R := wants (fun r t => r = .none ∧ ∃ h' tk, t = { s with heap := h', toks := tk } ∧ Pz h' tk) E) F.called_set.init.plain F.entry_set_init (check_set_init_1 ty0 ?_)) fun r t hr => ?_
    · obtain ⟨⟨oc, od, oda, osl⟩, ho, hc, ne, hd⟩ := hl
      simp only at hc hd
      subst hc
      subst hd
      have ho' : (s.heap.push (set0 w)).get? l = some { cls := .type "list", dict := od, data := .seq items ne, slots := osl } := Heap.get?_push_of_some _ ho
      have k1 := F.sub_list_set
      have k2 := F.sub_list_frozenset
      have k3 : (Value.type "list" == Value.type "dict") = false := by decide
      have il : (s.heap.push (set0 w)).IsList l items := ⟨_, ho', rfl, ne, rfl⟩
      unfold Builtin.«set.__init__» noKeywords Builtin.Frozenset.updateFrom
      generalize hPI : pyIter = PI
      wp_walk
      subst hPI
      refine wpAny_pyIter_list il (wpAny_bind (wpAny_runValue (hloop _ fun h' tk q => ?_)))
      show wpAny _ _ _ _ _ _
      refine wpAny_pure ?_
      show wpAny _ _ (ret Value.none) _ _ _
      exact wpAny_pure ⟨rfl, h', tk, rfl, q⟩
    · match r, hr with
      | .error e, hr => exact hr
      | .ok .next, hr => exact hr.elim
      | .ok .brk, hr => exact hr.elim
      | .ok .cont, hr => exact hr.elim
      | .ok (.ret x), hr =>
        obtain ⟨rfl, h', tk, rfl, q⟩ := hr
        repeat (any_goals (first | assumption | wp_step))
        exact h _ _ q
/-- set(xs), a list of ints -/
theorem set_listI {l : Addr} {items : Array Value} {ns : List Int} {Q : Value → Shared → Prop} (hh : A.handled = none) (hl : s.heap.IsList l items) (hit : IntsAre items.toList ns) (hb : ns.length + 1 < scanBound)
    (h : ∀ (h' : Heap) (tk c : Nat), SetR w h' s.heap.objs.size (fun j => decide (j ∈ ns)) c → c ≤ ns.length → (∀ b o, s.heap.get? b = some o → h'.get? b = some o) → Q (.ref s.heap.objs.size) { s with heap := h', toks := tk }) :
    wpAny (model P w) A (call (.type "set") [.ref l]) Q E s := by
  have hn : items.size = ns.length := by
    have := IntsAre.length hit
    rwa [Array.length_toList] at this
  have lt : l < s.heap.objs.size := by
    obtain ⟨o, ho, _⟩ := hl
    exact Heap.lt_size ho
  have sz : (s.heap.push (set0 w)).objs.size = s.heap.objs.size + 1 := Heap.size_push ..
  have at0 : (s.heap.push (set0 w)).get? s.heap.objs.size = some (set0 w) := Heap.get?_push_size _ rfl
  refine set_of_list (Pz := fun h' tk => ∃ c, SetR w h' s.heap.objs.size (fun j => decide (j ∈ ns)) c ∧ c ≤ ns.length ∧ ∀ b o, s.heap.get? b = some o → h'.get? b = some o) hl (fun R k => ?_) fun h' tk ⟨c, q1, q2, q3⟩ => h h' tk c q1 q2 q3
  have il : (s.heap.push (set0 w)).IsList l items := hl.push _
  refine set_update_ints ((Walks.list (by simp [hh]) (s.heap.push (set0 w)).objs.size l (by rw [sz]; exact Nat.ne_of_lt (Nat.lt_succ_of_lt lt)) items).toS) s.heap.objs.size (by rw [sz]; simp only [List.mem_cons, List.not_mem_nil, or_false, not_or]; exact ⟨Nat.ne_of_lt (Nat.lt_succ_self _), Nat.ne_of_gt lt⟩) ns hn hb (fun i v hv => ?_) items.size 0 _ (by omega) (Nat.zero_le _)
    ⟨⟨_, Heap.get?_push_size _ rfl, rfl, rfl⟩, il.push _⟩ ⟨0, Nat.le_refl _, setR_new_at (Heap.get?_push_of_some _ at0)⟩ fun s' c m hc hS => ?_
  · have hi : i < ns.length := by rw [← hn]; exact (Array.getElem?_eq_some_iff.mp hv).1
    obtain ⟨t, e⟩ := PyProof.Rows.IntsAre.int_at hit i v (by rw [Array.getElem?_toList]; exact hv)
    refine ⟨ns[i], t, List.getElem?_eq_getElem hi, ?_⟩
    rw [e, List.getD_eq_getElem?_getD, List.getElem?_eq_getElem hi]
    rfl
  · obtain ⟨h', g', d', tk', os'⟩ := s'
    obtain rfl : g' = s.gens := m.gens
    obtain rfl : d' = s.drawn := m.drawn
    obtain rfl : os' = s.os := m.os
    refine k h' tk' ⟨c, hS, by rw [← hn]; exact hc, fun b o e => ?_⟩
    have hb0 := Heap.lt_size e
    exact m.heap b o (by rw [sz]; simp only [List.mem_cons, List.not_mem_nil, or_false, not_or]; exact ⟨Nat.ne_of_lt hb0, Nat.ne_of_lt (Nat.lt_succ_of_lt hb0)⟩) (Heap.get?_push_of_some _ (Heap.get?_push_of_some _ e))
end
section
variable {X : Cx} {tg : Expr}
/-- sorted(set(xs)), a list of ints -/
def tSortSetL (K : PySem.W.Frag) (ta : TE) : TE := fun σ H Q => ta σ H fun x H1 => ∃ (l : Addr) (ns : List Int), x = .ref l ∧ SqL K H1 l (ns.map V.int) ∧ ns.length ≤ 4000 ∧
  ∀ (ns' : List Int) (p : Addr), ns'.Pairwise (· < ·) → (∀ k, k ∈ ns' ↔ k ∈ ns) → H1 p = none → Q (.ref p) (upd H1 p (.lst (ns'.map V.int)))
theorem pe_sortSetL {a : Expr} {ta : TE} {p p2 q pos : Pos} (hg : Gl X "sorted") (hm : X.mg "sorted" = none) (hg2 : Gl X "set") (hm2 : X.mg "set" = none) (ha : PE X a ta) (hc : X.calm = true := by rfl)
    (na : starEach [a] X.env = (false, eval a X.env) :: starEach [] X.env := by rfl) : PE X (.Call (.Name "sorted" p) [.Call (.Name "set" p2) [a] [] q] [] pos) (tSortSetL X.K ta) := by
  refine ⟨fun pins s σ H Q I h => ?_⟩
  refine Call_ (ld_blt I hg hm (show bootBuiltins "sorted" = some (.builtin "sorted") by decide +kernel) ?_)
  refine PyProof.Rows.callWith_builtin1 (PyProof.Rows.args_cons ?_ rfl) rfl rfl
  refine Call_ (ld_blt I hg2 hm2 boot_set ?_)
  refine PyProof.Rows.callWith_type1 (PyProof.Rows.args_cons (thn (ha.run pins s σ H _ I h) fun v s1 ⟨x, H1, I1, r1, q1⟩ => PyProof.Rows.args_nil ?_) na) na rfl
  obtain ⟨l, ns, rfl, hq, hl, q1⟩ := q1
  cases r1
  obtain ⟨its, r, pl, hz⟩ := I1.list hq
  refine set_listI (I1.ok.hd hc) (items := its.toArray) pl.isList (by simpa using r.ints) (by unfold scanBound; omega) fun h' tk c hS hc' hk => ?_
  refine PyProof.Rows.args_nil ?_
  exact set_sorted (I1.kept hk) hS (by omega) hc q1
/-- enumerate of a row that is a list or a tuple -/
def iEnumSeq (K : PySem.W.Frag) (ta : TA) : TI := fun σ H R => (iEnum K ta σ H R) ∨ (B.iEnumT K ta σ H R)
theorem pi_enumSeq {e : Expr} {ta : TA} {p pos tpos : Pos} {elts : List Expr} {kk : Nat} (hg : Gl X "enumerate") (hm : X.mg "enumerate" = none) (ha : PA X [e] ta) (hs : starEach [e] X.env = [(false, eval e X.env)] := by rfl) :
    PI X (.Tuple elts kk tpos) (.Call (.Name "enumerate" p) [e] [] pos) (iEnumSeq X.K ta) := by
  refine ⟨fun pins s σ H R I h => ?_⟩
  rcases h with h | h
  · exact (pi_enum hg hm ha hs).run pins s σ H R I h
  · exact (B.pi_enumT hg hm ha hs).run pins s σ H R I h
end
end BY
/-! B: values of which something is known, not all (what draws make) -/
namespace B
open PySem L2
open PySem.W (Tup T3 T4 Datum DatumOrd)
open Evl (Ex)
/-- the expression gives some x of which P tells -/
def EvX {α : Type} [Py α] (ε : Ef) (K : Fg) (te : TE) (σ : SS) (W : Wd) (P : α → Prop) : Prop := EvP ε te σ W (fun v W' => ∃ x : α, P x ∧ rep K W'.B v x)
def EvAsX {α : Type} [Py α] (ε : Ef) (K : Fg) (ta : TA) (σ : SS) (W : Wd) (n : Nat) (P : α → Prop) : Prop :=
  ∀ W1, Stp ε W W1 → ∀ Q : List V → Hp → Prop, (∀ vs W2 (xs : List α), Stp ε W1 W2 → Reps K W2.B vs xs → xs.length = n → (∀ x ∈ xs, P x) → Q vs W2.H) → ta σ W1.H Q
section
variable {α β γ : Type} [Py α] [Py β] [Py γ] {K : Fg} {σ : SS} {W : Wd} {ε : Ef} {te ta tb : TE} {tr : TA} {tt : TT} {P P' : α → Prop} {R : β → Prop} {S : γ → Prop}
theorem ex_of {x : α} (h : EvR ε K te σ W x) (p : P x) : EvX ε K te σ W P := fun W1 g1 Q k => h W1 g1 _ fun v W2 g2 r => k v W2 g2 ⟨x, p, r⟩
theorem EvX.imp (h : EvX ε K te σ W P) (i : ∀ x, P x → P' x) : EvX ε K te σ W P' := fun W1 g1 Q k => h W1 g1 _ fun v W2 g2 ⟨x, p, r⟩ => k v W2 g2 ⟨x, i x p, r⟩
theorem ex_op {r : R2} (ha : EvX ε K ta σ W P) (hb : EvX ε K tb σ W R) (ho : ∀ x y, P x → R y → ∃ z, S z ∧ RO K r x y z) : EvX ε K (tOp r ta tb) σ W S := fun W1 g1 Q k =>
  ha W1 g1 _ fun v W2 g2 ⟨x, px, rx⟩ => hb W2 (g1.trans g2) _ fun u W3 g3 ⟨y, py, ry⟩ => by
    obtain ⟨z, sz, o⟩ := ho x y px py
    exact o v u W3 (rep_s g3 rx) ry Q fun w W4 g4 rw => k w W4 (g2.trans (g3.and g4)) ⟨z, sz, rw⟩
theorem ex_cb1 {r : List V → Hp → VK → Prop} (ha : EvX ε K ta σ W P) (ho : ∀ x, P x → ∃ y, R y ∧ RC1 K r x y) : EvX ε K (tCB r (tCons ta tNil)) σ W R := fun W1 g1 Q k =>
  ha W1 g1 _ fun v W2 g2 ⟨x, px, rx⟩ => by
    obtain ⟨y, sy, o⟩ := ho x px
    exact o v W2 rx Q fun w W4 g4 rw => k w W4 (g2.and g4) ⟨y, sy, rw⟩
theorem ex_if {b : Bool} (h : EvT ε tt σ W b) (h1 : b = true → EvX ε K ta σ W P) (h2 : b = false → EvX ε K tb σ W P) : EvX ε K (tIf tt ta tb) σ W P := fun W1 g1 Q k => h W1 g1 _ fun W2 g2 => by
  cases b with
  | true => exact h1 rfl W2 (g1.trans g2) _ fun v W3 g3 r => k v W3 (g2.trans g3) r
  | false => exact h2 rfl W2 (g1.trans g2) _ fun v W3 g3 r => k v W3 (g2.trans g3) r
theorem exa_nil : EvAsX ε K tNil σ W 0 P := fun W1 g1 Q k => k [] W1 [] g1.rf .nil rfl (fun x h => by cases h)
theorem exa_cons {n : Nat} (h : EvX ε K te σ W P) (hr : EvAsX ε K tr σ W n P) : EvAsX ε K (tCons te tr) σ W (n + 1) P := fun W1 g1 Q k =>
  h W1 g1 _ fun v W2 g2 ⟨x, px, rx⟩ => hr W2 (g1.trans g2) _ fun vs W3 xs g3 rs hl hp => k (v :: vs) W3 (x :: xs) (g2.trans g3) (.cons (rep_s g3 rx) rs) (by rw [List.length_cons, hl]) (fun y hy => by
    rcases List.mem_cons.mp hy with e | e
    · rw [e]; exact px
    · exact hp y e)
theorem ex_lst {n : Nat} {ta : TA} (h : EvAsX ε K ta σ W n P) (hl : n ≤ 100000) : EvX ε K (tLst ta) σ W (fun xs : List α => xs.length = n ∧ ∀ x ∈ xs, P x) := fun W1 g1 Q k =>
  h W1 g1 _ fun vs W2 xs g2 rs hn hp => ⟨Evl.sz_of (by rw [Reps.len rs, hn]; exact hl), fun p hq => k _ (W2.add p (.lst vs)) (g2.and (W2.grow_add hq)) ⟨xs, ⟨hn, hp⟩, p, vs, rfl, upd_same, Reps.mono (exExt (W2.grow_add hq).b) rs⟩⟩
/-- an item at a drawn place -/
theorem ep_ixD {xs : List α} (h : EvR ε K ta σ W xs) (hi : EvP ε tb σ W (fun v _ => ∃ r, v = .int r ∧ 0 ≤ r ∧ r < (xs.length : Int))) : EvX ε K (tOp (rIxL K) ta tb) σ W (fun y => y ∈ xs) := fun W1 g1 Q k =>
  h W1 g1 _ fun a W2 g2 ra => hi W2 (g1.trans g2) _ fun u W3 g3 ⟨r, e, h0, h1⟩ => by
    obtain ⟨j, hj⟩ : ∃ j : Nat, r = (j : Int) := ⟨r.toNat, by omega⟩
    have hjl : j < xs.length := by omega
    exact ro_ixL (K := K) (x := xs[j]) (i := r) (by rw [hj]; exact atI_nat (List.getElem?_eq_getElem hjl)) a u W3 (rep_s g3 ra) e Q fun w W4 g4 rw => k w W4 (g2.trans (g3.and g4)) ⟨xs[j], List.getElem_mem _, rw⟩
theorem EvP.imp {P R : V → Wd → Prop} (h : EvP ε te σ W P) (i : ∀ v W, P v W → R v W) : EvP ε te σ W R := fun W1 g1 Q k => h W1 g1 _ fun v W2 g2 p => k v W2 g2 (i _ _ p)
theorem ex_sortSetL {n : Nat} (h : EvX ε K te σ W (fun xs : List Int => xs.length ≤ n)) (hn : n ≤ 4000) : EvX ε K (BY.tSortSetL K te) σ W (fun xs : List Int => xs.length ≤ n) := fun W1 g1 Q k => h W1 g1 _ fun v W2 g2 ⟨xs, hx, a, vs, e, s, r⟩ => by
  have e2 := reps_int r
  subst e2
  refine ⟨a, xs, e, SqL.of (W2.sub.el s), by omega, fun ns p hs hm hq => k _ (W2.add p _) (g2.and (W2.grow_add hq)) ⟨ns, ?_, p, _, rfl, upd_same, int_reps _⟩⟩
  have := nodup_le (hs.imp fun h e => by omega) (m := xs) fun k hk => (hm k).mp hk
  omega
end
end B
/-! BY: sets of keys of any kind, filled; len(set(list of texts)) -/
namespace BY
open PySem PySem.Spec PyProof.Rows L2
section
variable {P : Program} {w : World} {A : Around} {E : Value → Shared → Prop} {s : Shared} {κ : Type} [DecidableEq κ]
def inK (ks : List κ) (j : κ) : Bool := decide (j ∈ ks)
theorem fill_keys {knd : PySem.KeyKind P w κ} {I : Addr} {fp wr : List Addr} {G : Array GenState → Array GenState → Prop} {n : Nat} {Pv : Nat → Value → Prop} {St : Nat → Shared → Prop} {R : Result → Shared → Prop}
    (W : WalksS P w A.in1 I fp wr G n Pv St) {S : Addr} (hSf : S ∉ fp) {ks : List κ} (hn : n = ks.length) (hb : ks.length + 1 < scanBound) (hval : ∀ i v, Pv i v → ∃ k, ks[i]? = some k ∧ knd.is k v = true ∧ v.scannable = true) (hnd : ks.Nodup) :
    ∀ (m i : Nat) (s : Shared), n - i = m → i ≤ n → St i s → s.heap.SetOf knd S (inK (ks.take i)) i →
      (∀ s', Moved (S :: wr) G s s' → s'.heap.SetOf knd S (inK ks) n → R (.ok (.ret .none)) s') → codeAny (model P w) A (.builtin "set.update.loop" ⟨[.ref S, .ref I], []⟩) R s
  | 0, i, s, hm, hi, st, h, k => by
    obtain rfl : i = n := by omega
    have e : ks.take i = ks := List.take_of_length_le (by omega)
    rw [e] at h
    refine codeAny_builtin F.entry_set_update_loop ?_
    rw [Around.under_plainId F.plain_set_update_loop _]
    show wpAny _ A.in1 (pyNext (.ref I) >>= _) _ _ s
    refine wpAny_bind (W.done s _ _ st fun s' mv => ?_)
    have ne : S ∉ wr := fun z => hSf (W.sub _ z)
    obtain ⟨o, es, ep, t, ho, r⟩ := h
    exact wpAny_pure (k s' (mv.mono fun b hb => List.mem_cons_of_mem _ hb) ⟨o, es, ep, t, mv.heap S o ne ho, r⟩)
  | m + 1, i, s, hm, hi, st, h, k => by
    have hlt : i < n := by omega
    have ne : S ∉ wr := fun z => hSf (W.sub _ z)
    refine codeAny_builtin F.entry_set_update_loop ?_
    rw [Around.under_plainId F.plain_set_update_loop _]
    show wpAny _ A.in1 (pyNext (.ref I) >>= _) _ _ s
    refine wpAny_bind (W.item i s _ _ hlt st fun v s' pv st' mv => ?_)
    obtain ⟨x, hx, is, sc⟩ := hval i v pv
    have h' : s'.heap.SetOf knd S (inK (ks.take i)) i := by
      obtain ⟨o, es, ep, t, ho, r⟩ := h
      exact ⟨o, es, ep, t, mv.heap S o ne ho, r⟩
    have hni : x ∉ ks.take i := fun z => by
      obtain ⟨j, hj, e⟩ := List.mem_take_iff_getElem.mp z
      obtain ⟨hi', e2⟩ := List.getElem?_eq_some_iff.mp hx
      exact List.pairwise_iff_getElem.mp hnd j i (by omega) hi' (by omega) (e.trans e2.symm)
    show wpAny _ A.in1 (holding [v] (setAdd S v) >>= _) _ _ s'
    refine wpAny_bind (wpAny_holding ?_)
    unfold setAdd
    refine wpAny_holding (wpAny_bind (knd.pyHash is ?_))
    refine wpAny_setAddHashed_of (s := { s' with toks := s'.toks + 1 }) is sc h' (by omega) fun h2 sb new => ?_
    have new2 : h2.SetOf knd S (inK (ks.take (i + 1))) (i + 1) := by
      rw [if_neg (by unfold inK; rw [decide_eq_true_eq]; exact hni)] at new
      have e : (fun j => inK (ks.take i) j || decide (j = x)) = inK (ks.take (i + 1)) := by
        funext j
        unfold inK
        rw [List.take_add_one, hx]
        simp [List.mem_append]
      rwa [e] at new
    refine wpAny_pure ⟨plainId_quiet F.plain_set_update_loop _, fill_keys W hSf hn hb hval hnd m (i + 1) _ (by omega) hlt (W.frame _ s' _ _ st' (Nat.le_succ _) fun b hb o e => ?_) new2 fun s2 mv2 q => ?_⟩
    · rw [sb.2 b (fun z : b = S => hSf (by rw [← z]; exact hb))]
      exact e
    · refine k s2 (Moved.trans W.gtrans ((mv.mono fun b hb => List.mem_cons_of_mem _ hb).then_heap (Nat.le_succ _) fun b o hb e => ?_) mv2) q
      rw [sb.2 b (fun z => hb (by rw [z]; exact List.mem_cons_self))]
      exact e
/-- texts as keys -/
def keysS (xs : List Str) : List Key := xs.map fun x => Sum.inr x
/-- set(xs), a list of unlike texts -/
theorem set_listS {l : Addr} {its : List Value} {xs : List Str} {Q : Value → Shared → Prop} (hh : A.handled = none) (hl : s.heap.IsList l its.toArray) (r : Vals (xs.map V.str) its) (hb : xs.length + 1 < scanBound) (hnd : xs.Nodup)
    (h : ∀ (h' : Heap) (tk : Nat), h'.SetOf (mixKind P w) s.heap.objs.size (inK (keysS xs)) xs.length → (∀ b o, s.heap.get? b = some o → h'.get? b = some o) → Q (.ref s.heap.objs.size) { s with heap := h', toks := tk }) :
    wpAny (model P w) A (call (.type "set") [.ref l]) Q E s := by
  have hn : its.toArray.size = (keysS xs).length := by
    have := r.length
    rw [List.length_map] at this
    unfold keysS
    rw [List.size_toArray, List.length_map]
    exact this.symm
  have hn' : its.toArray.size = xs.length := by rw [hn]; unfold keysS; rw [List.length_map]
  have lt : l < s.heap.objs.size := by
    obtain ⟨o, ho, _⟩ := hl
    exact Heap.lt_size ho
  have sz : (s.heap.push (set0 w)).objs.size = s.heap.objs.size + 1 := Heap.size_push ..
  have at0 : (s.heap.push (set0 w)).get? s.heap.objs.size = some (set0 w) := Heap.get?_push_size _ rfl
  refine set_of_list (Pz := fun h' tk => h'.SetOf (mixKind P w) s.heap.objs.size (inK (keysS xs)) xs.length ∧ ∀ b o, s.heap.get? b = some o → h'.get? b = some o) hl (fun R k => ?_) fun h' tk ⟨q1, q2⟩ => h h' tk q1 q2
  have il : (s.heap.push (set0 w)).IsList l its.toArray := hl.push _
  refine fill_keys (knd := mixKind P w) (ks := keysS xs) ((Walks.list (by simp [hh]) (s.heap.push (set0 w)).objs.size l (by rw [sz]; exact Nat.ne_of_lt (Nat.lt_succ_of_lt lt)) its.toArray).toS) (by rw [sz]; simp only [List.mem_cons, List.not_mem_nil, or_false, not_or]; exact ⟨Nat.ne_of_lt (Nat.lt_succ_self _), Nat.ne_of_gt lt⟩) hn (by unfold keysS; rw [List.length_map]; exact hb) (fun i v hv => ?_)
    (by unfold keysS; exact List.pairwise_map.mpr (hnd.imp fun ne e => ne (Sum.inr.inj e))) its.toArray.size 0 _ (by omega) (Nat.zero_le _)
    ⟨⟨_, Heap.get?_push_size _ rfl, rfl, rfl⟩, il.push _⟩ ⟨_, #[], 0, _, Heap.get?_push_of_some _ at0, ⟨rfl, rfl, rfl⟩, rfl, (fun e he => by simp at he), (fun k => by simp [inK]), (by decide), (by rfl), rfl⟩ fun s' m hS => ?_
  · have hv' : its[i]? = some v := by simpa using hv
    have hi : i < xs.length := by
      have := (List.getElem?_eq_some_iff.mp hv').1
      rw [← hn', List.size_toArray]
      exact this
    obtain ⟨u, hu, ru⟩ := r.get (i := i) (x := V.str xs[i]) (by rw [List.getElem?_map, List.getElem?_eq_getElem hi]; rfl)
    rw [hv'] at hu
    cases hu
    have rk : RelV (kV (Sum.inr xs[i])) v := ru
    exact ⟨Sum.inr xs[i], by unfold keysS; rw [List.getElem?_map, List.getElem?_eq_getElem hi]; rfl, kV_is rk, key_scan rk⟩
  · obtain ⟨h', g', d', tk', os'⟩ := s'
    obtain rfl : g' = s.gens := m.gens
    obtain rfl : d' = s.drawn := m.drawn
    obtain rfl : os' = s.os := m.os
    refine k h' tk' ⟨by rw [← hn']; exact hS, fun b o e => ?_⟩
    have hb0 := Heap.lt_size e
    exact m.heap b o (by rw [sz]; simp only [List.mem_cons, List.not_mem_nil, or_false, not_or]; exact ⟨Nat.ne_of_lt hb0, Nat.ne_of_lt (Nat.lt_succ_of_lt hb0)⟩) (Heap.get?_push_of_some _ (Heap.get?_push_of_some _ e))
end
section
variable {X : Cx}
/-- len(set(xs)), a list of unlike texts -/
def tLenSetS (K : PySem.W.Frag) (ta : TE) : TE := fun σ H Q => ta σ H fun x H1 => ∃ (l : Addr) (xs : List Str), x = .ref l ∧ SqL K H1 l (xs.map V.str) ∧ xs.Nodup ∧ xs.length ≤ 4000 ∧ Q (.int (xs.length : Nat)) H1
theorem pe_lenSetS {a : Expr} {ta : TE} {p p2 q pos : Pos} (hg : Gl X "len") (hm : X.mg "len" = none) (hg2 : Gl X "set") (hm2 : X.mg "set" = none) (ha : PE X a ta) (hc : X.calm = true := by rfl)
    (na : starEach [a] X.env = (false, eval a X.env) :: starEach [] X.env := by rfl) : PE X (.Call (.Name "len" p) [.Call (.Name "set" p2) [a] [] q] [] pos) (tLenSetS X.K ta) := by
  refine ⟨fun pins s σ H Q I h => ?_⟩
  refine Call_ (ld_blt I hg hm boot_len ?_)
  refine PyProof.Rows.callWith_builtin1 (PyProof.Rows.args_cons ?_ rfl) rfl rfl
  refine Call_ (ld_blt I hg2 hm2 boot_set ?_)
  refine PyProof.Rows.callWith_type1 (PyProof.Rows.args_cons (thn (ha.run pins s σ H _ I h) fun v s1 ⟨x, H1, I1, r1, q1⟩ => PyProof.Rows.args_nil ?_) na) na rfl
  obtain ⟨l, xs, rfl, hq, hnd, hl, q1⟩ := q1
  cases r1
  obtain ⟨its, r, pl, hz⟩ := I1.list hq
  refine set_listS (I1.ok.hd hc) pl.isList r (by unfold scanBound; omega) hnd fun h' tk hS hk => ?_
  refine PyProof.Rows.args_nil ?_
  obtain ⟨o, es, ep, t, ho, hex, hd, _, _, _, hf, hn⟩ := hS
  have I2 : Inv X pins σ H1 { s1 with heap := h', toks := tk } := I1.kept hk
  exact call_len_set ho hex hd hf (by rw [hn] <;> omega) ⟨.int (xs.length : Nat), H1, I2.tok _, ⟨_, by rw [hn]⟩, q1⟩
end
end BY
/-! B: != of own instances by their own == -/
namespace B
open PySem L2 PySem.Spec PyProof.Rows
section
variable {prog : Program} {w : World} {A : Around} {E : Value → Shared → Prop} {s : Shared} {K : Fg} {x y C L f : Addr} {h₀ : Heap} {m : Str → Option Value} {ox : Obj} {od : Option Obj}
theorem ne_body {Q : PySem.Fin → Shared → Prop} (X : K.In s.heap) (I : PySem.W.InstAt s.heap x ox C od) (hs : PySem.W.findIn K (.ref C) "__eq__" = some (some (.ref f))) (hf : PySem.W.isFn K (.ref f) = true) (hu : A.units < cLine)
    (h : wpAny (model prog w) A (call (.ref f) [.ref x, .ref y]) (fun v s' => ∃ b, v = .bool b ∧ Q (.done (.ret (.bool (!b)))) s') E s) : wpAny (model prog w) A (Builtin.«object.__ne__» ⟨[.ref x, .ref y], []⟩) Q E s := by
  unfold Builtin.«object.__ne__»
  repeat (first
    | with_reducible refine wpAny_cRoomFor hu ?_
    | (refine wpAny_bind (m := callSpecialIfBound? (.ref x) (Str.ofString "__eq__") [.ref y]) (PySem.W.ifBound_K X I hs hf (wpAny_mono h (fun v s' hv => ?_) fun _ _ e => e)))
    | wp_step)
  obtain ⟨b, rfl, q⟩ := hv
  repeat (first | exact q | exact wpAny_pure q | exact wpAny_truthy_bool q | (refine wpAny_bind (m := truthy (.bool _)) (wpAny_truthy_bool ?_)) | wp_step)
theorem ne_bound {M : Model} {args : List Value} {Q : Option Value → Shared → Prop} (X : K.In s.heap) (I : PySem.W.InstAt s.heap x ox C od) (hs : PySem.W.findIn K (.ref C) "__ne__" = some (some (.builtin "object.__ne__")))
    (h : wpAny M A (call (.builtin "object.__ne__") (.ref x :: args)) (fun v => Q (some v)) E s) : wpAny M A (callSpecialIfBound? (.ref x) "__ne__" args) Q E s := by
  simp only [callSpecialIfBound?, bindSpecialIfBound?]
  refine wpAny_holding (wpAny_bind (wpAny_bind (wpAny_bind (I.type.here ((PySem.W.looks_findIn X hs).here ?_)))))
  refine wpAny_bind (wpAny_askSetting (wpAny_ite ?_))
  have fin : wpAny M A (call (.builtin "object.__ne__") ([.ref x] ++ args) >>= fun v => pure (some v)) Q E s := wpAny_bind (wpAny_mono h (fun v s' h' => wpAny_pure h') fun _ _ h' => h')
  simp only [PySem.F.cmp_object.ne.bind]
  split
  · exact wpAny_bind (wpAny_pure (wpAny_pure fin))
  · exact wpAny_tryCatch (wpAny_bind (wpAny_pure (wpAny_pure fin)))
end
section
variable {X : Cx} {CX : CXT} {k : Nat} {f C : Addr} {fd : FuncData} {ps : List Str} {sp : Sp} {E : XK}
/-- x != y, two instances of the class at C, whose own __eq__ keeps the promise sp -/
def rInsNe (C : Addr) (sp : Sp) (E : XK) : R2 := fun x y H Q => ∃ a b dx dy fs gs, x = .ref a ∧ y = .ref b ∧ H a = some (.ins C dx fs) ∧ H b = some (.ins C dy gs) ∧ sp [x, y] H (fun v H' => ∃ r, v = .bl r ∧ Q (.bl (!r)) H') E
theorem op_insNe (F : FnOk X.prog X.w X.K X.mg X.base CX k f fd ps sp) (hr : Room (k + 1) X.A) (hm : Meth X.K C "__eq__" f) (hn : PySem.W.findIn X.K (.ref C) "__ne__" = some (some (.builtin "object.__ne__")))
    (ho : PySem.W.mroIn X.K C (.type "object") = some true) (hb : Binds X.K fd ps []) (hx : Passes CX X E) : OpR X (compareOp .NotEq) (rInsNe C sp E) := by
  intro pins s σ H x y v u Q I rx ry h
  obtain ⟨a, b, dx, dy, fs, gs, rfl, rfl, ha, hb', q⟩ := h
  cases (show v = Value.ref a from rx)
  cases (show u = Value.ref b from ry)
  obtain ⟨mA, J, _⟩ := ins_get I.hok ha
  obtain ⟨mB, J', _⟩ := ins_get I.hok hb'
  obtain ⟨od, J, _⟩ := J.look
  obtain ⟨od', J', _⟩ := J'.look
  obtain ⟨m, hF⟩ := I.fr
  have XK := I.kIn
  show wpAny (model X.prog X.w) X.A (richCompare .NotEq (.ref a) (.ref b)) (EP X pins σ Q) X.xe s
  have own : wpAny (model X.prog X.w) X.A.in1 (call (.ref f) [.ref a, .ref b]) (fun v s' => ∃ r, v = .bool r ∧ EP X pins σ Q (.bool (!r)) s') X.xe s := by
    have hl := F.len _ _ _ _ q
    have r2 : Vals [V.ref a, V.ref b] [Value.ref a, Value.ref b] := .cons rfl (.cons rfl .nil)
    refine wpAny_call (codeAny_mono (F.run X.A.in1 X.stack s H ⟨[.ref a, .ref b], []⟩ [.ref a, .ref b] [.ref a, .ref b] _ E hr.in1 I.env0.in1 (by
      have := hb s [.ref a, .ref b] I.kIn (by simpa using hl)
      simpa using this) r2 q) fun r s' hq => ?_)
    cases r with
    | error e => exact hx pins σ H s e s' I hq
    | ok fl =>
      cases fl with
      | ret w =>
        obtain ⟨z, H', I', rz, r, rfl, q'⟩ := I.after hq
        cases rz
        exact ⟨r, rfl, .bl (!r), H', I', rfl, q'⟩
      | next => exact False.elim hq
      | brk => exact False.elim hq
      | cont => exact False.elim hq
  have one : wpAny (model X.prog X.w) X.A (tryCompare (.ref a) "__ne__" (.ref b)) (fun r s' => ∃ v, r = some v ∧ EP X pins σ Q v s') X.xe s := by
    unfold tryCompare
    refine wpAny_bind (ne_bound XK J hn (wpAny_call (codeAny_call_builtin PySem.F.cmp_object.ne.plain PySem.F.cmpEntry_ne (@PySem.W.check_slot (model X.prog X.w) _ _ s "object.__ne__" "object" "__ne__" (.ref a) [.ref b] [] _ PySem.F.cmpKind_ne PySem.F.cmpSplit_ne
      (J.type.andThen (PySem.W.looks_mroIn XK ho)) (PySem.F.cmpArgs_ne _ _) ?_))))
    refine ne_body (s := s) XK J hm.at_ hm.fn hr.in1.units0 (wpAny_mono own (fun v s' z => ?_) fun _ _ e => e)
    obtain ⟨r, rfl, z⟩ := z
    refine ⟨r, rfl, ?_⟩
    exact wpAny_pure ⟨_, rfl, z⟩
  unfold richCompare
  simp only [oneThing_ref]
  refine wpAny_holding (wpAny_bind (wpAny_cRoomFor hr.units0 ?_))
  refine wpAny_bind (J.type.here (wpAny_bind (J'.type.here ?_)))
  split
  · rename_i q; simp at q
  · refine wpAny_bind (wpAny_pure ?_)
    simp only [Bool.false_eq_true, if_false]
    refine wpAny_bind (wpAny_mono one (fun r s' z => ?_) fun _ _ e => e)
    obtain ⟨v, rfl, hq⟩ := z
    exact wpAny_pure hq
end
end B
/-! B: min(d.values()), sorted(d.items()) -/
namespace B
open PySem L2 PySem.Spec PyProof.Rows
section
variable {X : Cx}
/-- min(d.values()) -/
def rMinV : List V → Hp → VK → Prop := fun vs H Q => ∃ (v a : Addr) (kvs : List (Key × V)) (is : List Int), vs = [V.ref v] ∧ H v = some (viewHO v a) ∧ H a = some (.dK kvs) ∧ kvs.map (·.2) = is.map V.int ∧ 0 < is.length ∧ ∀ m, m ∈ is → (∀ y ∈ is, m ≤ y) → Q (.int m) H
theorem cr_minV (hc : X.calm = true) : CallR X (.builtin "min") rMinV := by
  intro pins s σ H xs us Q I r h
  obtain ⟨v, a, kvs, is, rfl, hv, ha, hi, hne, q⟩ := h
  obtain rfl := Vals.ref1 r
  obtain ⟨vs, ep, e, dat, hl, _, hval⟩ := view_at I hv ha hi
  refine call_min_walkS ?_
  obtain ⟨oI, St, hit, W, st⟩ := (PySem.W.kdl_values (prog := X.prog) (w := X.w) (knd := mixKind X.prog X.w) (d := a) (r := v) (kvs := vs) (ep := ep)).iter X.A.in1 s (I.ok.hd hc) ⟨⟨_, e, rfl, rfl⟩, dat⟩
  have hv2 : ∀ (i : Nat) (u : Value), (∃ k, vs[i]? = some (k, u)) → ∃ t, u = Value.int (is.getD i 0) t := fun i u hu => by
    obtain ⟨x, t, h1, h2⟩ := hval i u hu
    exact ⟨t, by rw [h2]; show Value.int x t = Value.int (is.getD i 0) t; rw [List.getD_eq_getElem?_getD, h1]; rfl⟩
  refine hit _ _ ⟨s.heap.objs.size, _, _, _, vs.length, _, _, fun i j => decide (is.getD i 0 < is.getD j 0), rfl, W.toS, st, fun b hb => ?_, by rw [hl]; exact hne, CmpOf.ints_lt (fun i => is.getD i 0) hv2, fun u s' hu hm => ?_⟩
  · show b < (s.heap.push oI).objs.size
    rw [Heap.size_push]
    rcases List.mem_cons.mp hb with e' | hb
    · rw [e']; exact Nat.lt_succ_self _
    · rw [List.mem_singleton.mp hb]; exact Nat.lt_succ_of_lt (by obtain ⟨ob, es, ho, _⟩ := id dat; exact Heap.lt_size ho)
  · obtain ⟨t, rfl⟩ := hv2 _ u hu
    have hk : ∀ b o, s.heap.get? b = some o → s'.heap.get? b = some o := fun b o e =>
      hm.heap b o (fun hI => absurd (Heap.lt_size e) (by rw [List.mem_singleton.mp hI]; exact Nat.lt_irrefl _)) (Heap.get?_push_of_some _ e)
    have hb := argBest_lt (fun i => is.getD i 0) (vs.length - 1)
    have hlt : argBest (fun i j => decide (is.getD i 0 < is.getD j 0)) (vs.length - 1) < is.length := by
      have := hb.1
      omega
    rw [Moved.eq_with hm]
    refine ⟨.int _, H, I.kept hk, ⟨t, rfl⟩, q _ ?_ fun y hy => ?_⟩
    · rw [List.getD_eq_getElem?_getD, List.getElem?_eq_getElem hlt, Option.getD_some]; exact List.getElem_mem hlt
    · obtain ⟨i, hi', rfl⟩ := List.getElem_of_mem hy
      have := hb.2 i (by omega)
      simpa [List.getD_eq_getElem?_getD, List.getElem?_eq_getElem hi'] using this
end
/-! ### sorted(d.items()), values ints, keys all texts or all ints -/
def kdat : Key → PyData := Sum.elim PyData.int PyData.str
def kle : Key → Key → Bool
  | .inl i, .inl j => decide (i ≤ j)
  | .inr s, .inr t => decide (s.cps.toList ≤ t.cps.toList)
  | _, _ => false
def ienc (q : Key × Int) : PyData := .tuple [kdat q.1, .int q.2]
def OneKind (ks : List (Key × Int)) : Prop := (∀ q ∈ ks, ∃ x : Str, q.1 = .inr x) ∨ ∀ q ∈ ks, ∃ i : Int, q.1 = .inl i
theorem ienc_le {a b : Key × Int} (h : (∃ x y : Str, a.1 = .inr x ∧ b.1 = .inr y) ∨ ∃ x y : Int, a.1 = .inl x ∧ b.1 = .inl y) (hl : PySem.W.dataLe false ienc a b = true) : kle a.1 b.1 = true := by
  rw [PySem.W.dataLe_eq] at hl
  obtain ⟨a1, a2⟩ := a
  obtain ⟨b1, b2⟩ := b
  rcases h with ⟨x, y, rfl, rfl⟩ | ⟨x, y, rfl, rfl⟩
  · have hl' : (!PySem.W.dataLt (.tuple [.str y, .int b2]) (.tuple [.str x, .int a2])) = true := hl
    rw [PySem.W.dataLt_pair (by simp [PySem.W.alike]) (by simp [PySem.W.alike]), PySem.W.dataLt_str] at hl'
    show decide (x.cps.toList ≤ y.cps.toList) = true
    rw [← PySem.W.not_lt_str]
    by_cases e : y = x
    · subst e; simp
    · have : PyData.eqv (.str y) (.str x) = false := by simp [PyData.eqv, e]
      rw [this] at hl'
      simpa using hl'
  · have hl' : (!PySem.W.dataLt (.tuple [.int y, .int b2]) (.tuple [.int x, .int a2])) = true := hl
    rw [PySem.W.dataLt_pair (by simp [PySem.W.alike]) (by simp [PySem.W.alike])] at hl'
    show decide (x ≤ y) = true
    rw [← PySem.W.not_lt_int]
    by_cases e : y = x
    · subst e; simp
    · have : PyData.eqv (.int y) (.int x) = false := by simp [PyData.eqv, e]
      rw [this, if_neg Bool.false_ne_true, PySem.W.dataLt_int] at hl'
      exact hl'
theorem OneKind.two {ks : List (Key × Int)} (h : OneKind ks) {a b : Key × Int} (ha : a ∈ ks) (hb : b ∈ ks) : (∃ x y : Str, a.1 = .inr x ∧ b.1 = .inr y) ∨ ∃ x y : Int, a.1 = .inl x ∧ b.1 = .inl y := by
  rcases h with h | h
  · obtain ⟨x, e⟩ := h a ha
    obtain ⟨y, e'⟩ := h b hb
    exact .inl ⟨x, y, e, e'⟩
  · obtain ⟨x, e⟩ := h a ha
    obtain ⟨y, e'⟩ := h b hb
    exact .inr ⟨x, y, e, e'⟩
theorem OneKind.alike {ks : List (Key × Int)} (h : OneKind ks) : PySem.W.AllAlike (ks.map ienc) := by
  intro d hd d' hd'
  obtain ⟨a, ha, rfl⟩ := List.mem_map.mp hd
  obtain ⟨b, hb, rfl⟩ := List.mem_map.mp hd'
  obtain ⟨a1, a2⟩ := a
  obtain ⟨b1, b2⟩ := b
  rcases h.two ha hb with ⟨x, y, e, e'⟩ | ⟨x, y, e, e'⟩
  · cases e; cases e'; simp [ienc, kdat, PySem.W.alike, PySem.W.alikeAll]
  · cases e; cases e'; simp [ienc, kdat, PySem.W.alike, PySem.W.alikeAll]
theorem isorted {ks : List (Key × Int)} (h : OneKind ks) : (ks.mergeSort (PySem.W.dataLe false ienc)).Pairwise fun a b => kle a.1 b.1 = true := by
  have := PySem.W.sort_pairwise (PySem.W.sortLe_total (PyProof.Rows.listOrd PyProof.Rows.itemOrd) false fun b => PySem.W.keyToks (ienc b)) ks
  refine List.Pairwise.imp_of_mem (fun {a b} ha hb hl => ienc_le (h.two (List.mem_mergeSort.mp ha) (List.mem_mergeSort.mp hb)) hl) this
end B
/-! B: sorted(d.items()) -/
namespace B
open PySem L2 PySem.Spec PyProof.Rows
/-- sorted(d.items()): tuples in the order of the keys -/
def rSortItems : V → Hp → VK → Prop := fun x H Q => ∃ (d : Addr) (ks : List (Key × Int)), x = .ref d ∧ H d = some (.dK (ks.map fun q => (q.1, V.int q.2))) ∧ OneKind ks ∧ ks.length ≤ 4000 ∧
  ∀ (ys : List (Key × Int)) (H' : Hp) (p : Addr) (ts : List Addr), ys.Perm ks → ys.Pairwise (fun a b => kle a.1 b.1 = true) → (∀ b o, H b = some o → H' b = some o) → H p = none → (∀ t ∈ ts, H t = none) → p ∉ ts → H' p = some (.lst (ts.map V.ref)) →
    Paired (fun (t : Addr) (q : Key × Int) => H' t = some (.tup [kV q.1, .int q.2])) ts ys → Q (.ref p) H'
def tSortItems (te : TE) : TE := fun σ H Q => te σ H fun x H1 => rSortItems x H1 Q
section
variable {prog : Program} {w : World} {A : Around} {E : Value → Shared → Prop} {s : Shared}
theorem each_refs {Rr : Value → Key × Int → Prop} : ∀ {out : List Value} {ys : List (Key × Int)}, PySem.W.EachIs Rr out ys → (∀ v q, Rr v q → ∃ t, v = .ref t) → ∃ ts : List Addr, out = ts.map Value.ref ∧ Paired (fun t q => Rr (.ref t) q) ts ys
  | _, _, .nil, _ => ⟨[], rfl, .nil⟩
  | _, _, .cons h r, hr => by
    obtain ⟨t, rfl⟩ := hr _ _ h
    obtain ⟨ts, rfl, q⟩ := each_refs r hr
    exact ⟨t :: ts, rfl, .cons h q⟩
theorem each_ix {α β : Type} {Rr : α → β → Prop} : ∀ {as : List α} {bs : List β}, as.length = bs.length → (∀ (j : Nat) (a : α) (b : β), as[j]? = some a → bs[j]? = some b → Rr a b) → PySem.W.EachIs Rr as bs
  | [], [], _, _ => .nil
  | [], _ :: _, h, _ => by simp at h
  | _ :: _, [], h, _ => by simp at h
  | a :: as, b :: bs, h, q => .cons (q 0 a b rfl rfl) (each_ix (by simpa using h) fun j x y h1 h2 => q (j + 1) x y (by simpa using h1) (by simpa using h2))
theorem paired_imp {α β : Type} {R S : α → β → Prop} : ∀ {as : List α} {bs : List β}, Paired R as bs → (∀ a b, a ∈ as → R a b → S a b) → Paired S as bs
  | _, _, .nil, _ => .nil
  | _, _, .cons h r, q => .cons (q _ _ List.mem_cons_self h) (paired_imp r fun a b ha => q a b (List.mem_cons_of_mem _ ha))
/-- what the k-th pair is, on the heap -/
def PairAt (h : Heap) (t : Addr) (q : Key × Int) : Prop := ∃ key tk', h.get? t = some { cls := .type "tuple", data := .seq #[key, .int q.2 tk'] } ∧ RelV (kV q.1) key
theorem PairAt.reads {h h2 : Heap} {t : Addr} {q : Key × Int} (p : PairAt h t q) (k : ∀ b o, h.get? b = some o → h2.get? b = some o) : Reads h2 (.ref t) (ienc q) [] := by
  obtain ⟨key, tk', f3, rk⟩ := p
  obtain ⟨q1, q2⟩ := q
  have rkey : Reads h2 key (kdat q1) [] := by
    cases q1 with
    | inl i => obtain ⟨t, rfl⟩ := (show ∃ t, key = Value.int i t from rk); exact .int i t
    | inr x => obtain ⟨t, rfl⟩ := (show ∃ t, key = Value.str x t from rk); exact .str x t
  exact .tuple (vs := #[key, .int q2 tk']) (k _ _ f3) rfl rfl (.cons (as := []) (bs := []) rkey (.cons (as := []) (bs := []) (.int q2 tk') .nil))
theorem ienc_depth (q : Key × Int) : (ienc q).depth ≤ 1 := by
  obtain ⟨q1, q2⟩ := q
  cases q1 <;> simp [ienc, kdat, PyData.depth, PyData.depthAll]
def IxP (as : List Addr) (ks : List (Key × Int)) (v : Value) (q : Key × Int) : Prop := ∃ (j : Nat) (t : Addr), v = .ref t ∧ as[j]? = some t ∧ ks[j]? = some q
/-- the list of pairs, sorted -/
theorem sort_pairs {a : Addr} {n : Nat} {as : List Addr} {ks : List (Key × Int)} {Q : Value → Shared → Prop} (ho : s.heap.get? a = some (seqObj "list" (as.map Value.ref).toArray n)) (hl : as.length = ks.length) (pr : ∀ (j : Nat) (t : Addr) (q : Key × Int), as[j]? = some t → ks[j]? = some q → PairAt s.heap t q)
    (hok : OneKind ks) (h4 : ks.length ≤ 4000) (hu : A.units + 4 < cLine)
    (h : ∀ (ts : List Addr) (ys : List (Key × Int)), ys.Perm ks → ys.Pairwise (fun a b => kle a.1 b.1 = true) → Paired (fun t q => IxP as ks (.ref t) q) ts ys → Q .none { s with heap := sortedHeap s.heap a (as.map Value.ref) (ts.map Value.ref).toArray }) :
    wpAny (model prog w) A (call (.builtin "list.sort") [.ref a]) Q E s := by
  have eR : PySem.W.EachIs (IxP as ks) (as.map Value.ref) ks := each_ix (by simpa using hl) fun j a b h1 h2 => by
    rw [List.getElem?_map] at h1
    obtain ⟨t, h3, rfl⟩ := Option.map_eq_some_iff.mp h1
    exact ⟨j, t, rfl, h3, h2⟩
  refine PySem.W.list_sort_data (enc := ienc) (R := IxP as ks) ho eR (eR.mono fun v q ⟨j, t, e, h1, h2⟩ => ⟨[], by rw [e]; exact (pr j t q h1 h2).reads fun _ _ z => z, by simp⟩) hok.alike (.inl fun d hd => ?_) (by rw [sizeLine_eq]; omega) (fun b _ => ?_) fun out ho hO => ?_
  · obtain ⟨b, _, rfl⟩ := List.mem_map.mp hd
    exact ⟨_, _, rfl⟩
  · have := ienc_depth b
    omega
  · obtain ⟨ts, rfl, q⟩ := each_refs hO fun v q ⟨_, t, e, _⟩ => ⟨t, e⟩
    exact h ts _ (List.mergeSort_perm _ _) (isorted hok) q
/-- sorted(the items' view) -/
theorem sorted_view {r d : Addr} {ep : Nat} {vs : List (Key × Value)} {ks : List (Key × Int)} {Q : Value → Shared → Prop} (hh : A.handled = none) (hv : s.heap.IsItemsView r d) (hm : s.heap.DictAt (mixKind prog w) d vs ep) (kv : KV (ks.map fun q => (q.1, V.int q.2)) vs)
    (hok : OneKind ks) (h4 : ks.length ≤ 4000) (hu : A.units + 8 < cLine)
    (hQ : ∀ (h' : Heap) (tk : Nat) (p : Addr) (as ts : List Addr) (ys : List (Key × Int)), (∀ b o, s.heap.get? b = some o → h'.get? b = some o) → r < p → (∃ n, h'.get? p = some (seqObj "list" (ts.map Value.ref).toArray n)) → as.Pairwise (· < ·) → (∀ t ∈ as, s.heap.objs.size < t ∧ t < p) → as.length = ks.length →
      (∀ (j : Nat) (t : Addr) (q : Key × Int), as[j]? = some t → ks[j]? = some q → PairAt h' t q) → ys.Perm ks → ys.Pairwise (fun a b => kle a.1 b.1 = true) → Paired (fun t q => IxP as ks (.ref t) q) ts ys → Q (.ref p) { s with heap := h', toks := tk }) :
    wpAny (model prog w) A (call (.builtin "sorted") [.ref r]) Q E s := by
  have lk' : ks.length = vs.length := by simpa using KV.length kv
  have hzl : vs.length ≤ sizeLine := by rw [← lk', sizeLine_eq]; omega
  refine Calls.call_function_entry kind_sorted plain_sorted entry_sorted (args_sorted1 _) ?_
  unfold Builtin.«sorted»
  refine wpAny_bind (m := checkCount "sorted" 1 1 _) (wpAny_pure ?_)
  refine wpAny_bind (PySem.W.kdx_collect (A := A.in1) (knd := mixKind prog w) (kvs := vs) (ep := ep) hh hv hm hzl fun h' tk as hk hl hG => ?_)
  have hal : (as.map Value.ref).length ≤ sizeLine := by rw [List.length_map, hl]; exact hzl
  have lak : as.length = ks.length := by omega
  have pr : ∀ (j : Nat) (t : Addr) (q : Key × Int), as[j]? = some t → ks[j]? = some q → PairAt h' t q := by
    intro j t q h1 h2
    obtain ⟨key, k, x, f1, f2, f3⟩ := hG.pairs j t h1
    have e2 : (ks.map fun q => (q.1, V.int q.2))[j]? = some (q.1, V.int q.2) := by rw [List.getElem?_map, h2]; rfl
    obtain ⟨qv, g1, g2, g3⟩ := LiI.paired_get kv e2
    rw [f1] at g1
    cases g1
    obtain ⟨t', rfl⟩ := (show ∃ t, x = Value.int q.2 t from g3)
    refine ⟨key, t', f3, ?_⟩
    rw [show q.1 = k from g2]
    exact relV_key (show keyIs k key = true from f2)
  refine wpAny_bind (wpAny_newList ?_ hal)
  have hoL : (h'.push (seqObj "list" (as.map Value.ref).toArray 0)).get? h'.objs.size = some (seqObj "list" (as.map Value.ref).toArray 0) := Heap.get?_push_size _ rfl
  refine wpAny_bind (wpAny_holding ?_)
  refine sort_pairs (A := A.in1) (s := ⟨h'.push (seqObj "list" (as.map Value.ref).toArray 0), s.gens, s.drawn, tk, s.os⟩) hoL lak (fun j t q h1 h2 => ?_) hok h4 (by show A.units + 1 + 4 < _; omega) fun ts ys y1 y2 y3 => ?_
  · obtain ⟨key, t', e1, e2⟩ := pr j t q h1 h2
    exact ⟨key, t', Heap.get?_push_of_some _ e1, e2⟩
  refine wpAny_pure ?_
  obtain ⟨c, hc⟩ := sortedHeap_at (vs := as.map Value.ref) (out := (ts.map Value.ref).toArray) hoL
  have keep : ∀ b o, h'.get? b = some o → (sortedHeap (h'.push (seqObj "list" (as.map Value.ref).toArray 0)) h'.objs.size (as.map Value.ref) (ts.map Value.ref).toArray).get? b = some o := fun b u e => by
    have hlt := Heap.lt_size e
    rw [sortedHeap_old (Nat.ne_of_lt hlt) (by rw [size_push']; exact Nat.lt_succ_of_lt hlt)]
    exact Heap.get?_push_of_some _ e
  refine ⟨_, rfl, hQ _ tk h'.objs.size as ts ys (fun b o e => keep b o (hk b o e)) ?_ ⟨c, hc⟩ hG.rise (fun t ht => ⟨hG.above t ht, hG.there ht⟩) lak (fun j t q h1 h2 => ?_) y1 y2 y3⟩
  · obtain ⟨o, ho, _⟩ := hv
    exact Heap.lt_size (hk _ _ ho)
  · obtain ⟨key, t', e1, e2⟩ := pr j t q h1 h2
    exact ⟨key, t', keep _ _ e1, e2⟩
end
section
variable {X : Cx} {e : Expr} {te : TE} {p apos cpos pos : Pos}
theorem ix_perm {as : List Addr} {ks ys : List (Key × Int)} {ts : List Addr} (h : Paired (fun t q => IxP as ks (.ref t) q) ts ys) : ∀ t ∈ ts, t ∈ as := fun t ht => by
  obtain ⟨j, q, e1, e2, j', t', e3, e4, e5⟩ := LiI.paired_ix h ht
  cases e3
  exact List.mem_of_getElem? e4
theorem pe_sortItems (hc : X.calm = true) (he : PE X e te) (hg : Gl X "sorted") (hm : X.mg "sorted" = none) (hu : X.A.units + 64 < cLine) (hbase : attributeBase e "items" X.env (eval e X.env) = eval e X.env := by rfl) (hline : (apos.endLine == cpos.line) = true := by rfl)
    (hs : starEach [.Call (.Attribute e "items" apos) [] [] cpos] X.env = (false, eval (.Call (.Attribute e "items" apos) [] [] cpos) X.env) :: starEach [] X.env := by rfl) :
    PE X (.Call (.Name "sorted" p) [.Call (.Attribute e "items" apos) [] [] cpos] [] pos) (tSortItems te) := by
  refine ⟨fun pins s σ H Q I hq => ?_⟩
  refine Call_ (ld_blt I hg hm (show bootBuiltins "sorted" = some (.builtin "sorted") by decide +kernel) ?_)
  refine PyProof.Rows.callWith_builtin1 (PyProof.Rows.args_cons ?_ hs) rfl rfl
  refine wpAny_Call_method (T := "dict") (id := "dict.items") hbase rfl hline F.plainAttrs_dict F.slot_dict_items F.type_dict_items (thn (he.run pins s σ H _ I hq) fun u s1 ⟨x, H1, I1, rx, d, ks, ex, hd, hok, h4, q⟩ => ?_)
  subst ex
  obtain rfl : u = Value.ref d := rx
  obtain ⟨hz, hs0, vs, kv, hdo⟩ := I1.hok d _ hd
  obtain ⟨ep, hat⟩ := hdo.dictAt
  refine ⟨hdo.typeIs, hdo.mapOf.noDict, ?_⟩
  show wpAny _ _ (callWith cpos (.builtin "dict.items") [.ref d] [] []) _ X.xe s1
  refine method_meetsIn F.slot_dict_items F.entry_dict_items rfl (PySem.evalArgs_none ⟨rfl, hdo.typeIs, F.args_dict_items_1 _, _, meets_dict_items (mixKind X.prog X.w) d hs0, ⟨vs, hdo⟩, ?_⟩)
  refine PyProof.Rows.args_nil ?_
  have hvw : (s1.heap.push { cls := .type "dict_items", data := .fields #[.ref d] }).IsItemsView s1.heap.objs.size d := ⟨_, Heap.get?_push_size _ rfl, rfl, rfl⟩
  refine sorted_view (s := { s1 with heap := s1.heap.push { cls := .type "dict_items", data := .fields #[.ref d] } }) (I1.ok.hd hc) hvw (hat.push _) kv hok h4 (by omega) fun h' tk p as ts ys hk hp hl rise ab la pr y1 y2 y3 => ?_
  have keep : ∀ b o, s1.heap.get? b = some o → h'.get? b = some o := fun b o e => hk b o (Heap.get?_push_of_some _ e)
  have hp' : s1.heap.objs.size < p := hp
  have zle : s1.heap.objs.size ≤ (s1.heap.push { cls := .type "dict_items", data := .fields #[.ref d] }).objs.size := by rw [Heap.size_push]; exact Nat.le_succ _
  have hn0 : H1 p = none := I1.hok.fresh (Nat.le_of_lt hp')
  have I2 : Inv X pins σ H1 { s1 with heap := h', toks := tk } := I1.kept (t' := tk) keep
  obtain ⟨n, hl⟩ := hl
  have lt : ts.length = ks.length := by
    have := Paired.length y3
    rw [this, y1.length_eq]
  have I3 : Inv X pins σ (upd H1 p (.lst (ts.map V.ref))) { s1 with heap := h', toks := tk } :=
    I2.take (h' := h') (t' := tk) (fun b ob _ e => e) (I1.fpOk (Nat.le_of_lt hp') hn0) ⟨by rw [List.length_map, sizeLine_eq]; omega, ts.map Value.ref, n, LiI.vals_refs ts, hl⟩
  have nd : as.Nodup := List.Pairwise.imp (fun h => Nat.ne_of_lt h) rise
  have low : ∀ t ∈ as, s1.heap.objs.size ≤ t ∧ t < p := fun t ht => ⟨Nat.le_of_lt (Nat.lt_of_le_of_lt zle (ab t ht).1), (ab t ht).2⟩
  obtain ⟨H2, I4, g, qt⟩ := DX.takeT (P := fun b vs => ∃ (j : Nat) (q : Key × Int), as[j]? = some b ∧ ks[j]? = some q ∧ vs = [kV q.1, .int q.2]) I1 as _ I3 nd fun b hb => by
    obtain ⟨j, hj⟩ := List.mem_iff_getElem?.mp hb
    obtain ⟨hb1, hb2⟩ := low b hb
    have hj2 : j < ks.length := by have := (List.getElem?_eq_some_iff.mp hj).1; omega
    obtain ⟨key, tk', e1, e2⟩ := pr j b ks[j] hj (by simp [hj2])
    refine ⟨hb1, by rw [upd_ne (Nat.ne_of_lt hb2)]; exact I1.hok.fresh hb1, _, ⟨j, ks[j], hj, by simp [hj2], rfl⟩, fun H3 => ⟨by rw [sizeLine_eq]; show 2 ≤ 16777216; omega, [key, .int (ks[j]).2 tk'], .cons e2 (.cons ⟨tk', rfl⟩ .nil), ⟨_, e1, rfl, 0, rfl⟩⟩⟩
  have gr : ∀ b o, H1 b = some o → H2 b = some o := fun b o e => g b o (by rw [upd_ne (ne_of_none e hn0)]; exact e)
  have ht := ix_perm y3
  refine ⟨.ref p, H2, I4, rfl, q ys H2 p ts y1 y2 gr hn0 (fun t z => I1.hok.fresh (low t (ht t z)).1) (fun z => Nat.lt_irrefl _ (low p (ht p z)).2) (g _ _ upd_same) (paired_imp y3 fun t q hm ⟨i, t', e, i1, i2⟩ => ?_)⟩
  cases e
  obtain ⟨vs, ⟨j, q', j1, j2, ev⟩, hH⟩ := qt t (List.mem_of_getElem? i1)
  have eij : i = j := (List.getElem?_inj (List.getElem?_eq_some_iff.mp i1).1 nd).mp (i1.trans j1.symm)
  subst eij
  have ee : q' = q := Option.some.inj (j2.symm.trans i2)
  rw [ev, ee] at hH
  exact hH
end
end B
/-! B: methods and classes called with keywords, keyword-only defaults -/
namespace B
open PySem L2 PySem.Spec PyProof.Rows
/-- how a def without defaults binds n values and the keywords ks -/
theorem kbn_mk {K : Fg} {x qual : Str} {st : Stmt} {f : Addr} {fd : FuncData} {ps : List Str} {n : Nat} {ks : List Str} {l : List Nat} (F : Fun K x qual st f fd)
    (h : ∀ (kV doc pm : Value) (an : Option Addr) (cdv ct : Value) (us ws : List Value), us.length = n → ws.length = ks.length → bindArgs (PySem.W.fnOf x qual (defArgs st) (defBody st) (defScope st) .none kV doc pm an cdv ct) ⟨us, ks.zip ws⟩ = pure (ps.zip (us ++ perm l ws))) :
    ∃ g, KBn K fd ps n ks g (fun vs zs => vs ++ perm l zs) := by
  obtain ⟨oc, od, kV, doc, pm, an, cdv, ct, osl, rfl, lk, hcd⟩ := F.ex
  exact ⟨fun us ws => us ++ perm l ws, ⟨fun s us ws _ h1 h2 => .of_eq (h kV doc pm an cdv ct us ws h1 h2), fun r1 r2 => r1.append (perm_rel l r2)⟩⟩
theorem fund_mk {K : Fg} {x qual : Str} {st : Stmt} {f D : Addr} {oc : Value} {od an : Option Addr} {osl : Array (Option Value)} {doc pm cdv ct : Value} {kws : List (Str × V)} (l : K.lookup f = some ⟨oc, od, .func (PySem.W.fnOf x qual (defArgs st) (defBody st) (defScope st) .none (.ref D) doc pm an cdv ct), osl⟩)
    (c : PySem.W.codeIn K cdv qual = true) (k : PySem.W.keepIn K (.ref f) = true) (hk : ∀ q ∈ kws, ∃ u, PySem.W.nsIn K D q.1 = some (some u) ∧ RelV q.2 u) :
    FunD K x qual (defArgs st) (defBody st) (defScope st) [] kws f (PySem.W.fnOf x qual (defArgs st) (defBody st) (defScope st) .none (.ref D) doc pm an cdv ct) :=
  ⟨⟨oc, od, .none, .ref D, doc, pm, an, cdv, ct, osl, rfl, l, c, .inl ⟨rfl, rfl⟩, .inr ⟨D, rfl, hk⟩⟩, k⟩
/-- .. and one with keyword-only defaults, those of ms lacking -/
theorem kbd_mk {K : Fg} {x qual : Str} {params : Arguments} {body : List Stmt} {scope : Scope} {f : Addr} {fd : FuncData} {ps : List Str} {n : Nat} {ks : List Str} {kws ms : List (Str × V)} {l : List Nat} (F : FunD K x qual params body scope [] kws f fd) (hk : kws ≠ []) (hms : ∀ q ∈ ms, q ∈ kws)
    (h : ∀ (D : Addr) (doc pm : Value) (an : Option Addr) (cdv ct : Value) (us mv ws : List Value), us.length = n → mv.length = ms.length → ws.length = ks.length →
      KwChain D ((ms.map (·.1)).zip mv) (bindArgs (PySem.W.fnOf x qual params body scope .none (.ref D) doc pm an cdv ct) ⟨us, ks.zip ws⟩) (ps.zip (us ++ perm l (ws ++ mv)))) :
    ∃ g, KBn K fd ps n ks g (fun vs zs => vs ++ perm l (zs ++ ms.map (·.2))) := by
  obtain ⟨mv, q⟩ := F.kbinds0 n ks ms (fun us mv ws => us ++ perm l (ws ++ mv)) hk hms (fun r1 r2 r3 => r1.append (perm_rel l (r3.append r2))) h
  exact ⟨_, q⟩
/-- o.m(e, .., k = v, ..) -/
def tMethN (C : Addr) (m : Str) (n j : Nat) (sp : Sp) (gV : List V → List V → List V) (E : XK) (to : TE) (t tk : TA) : TE := fun σ H Q => to σ H fun x H1 => ∃ a dx fs, x = .ref a ∧ H1 a = some (.ins C dx fs) ∧ fs.lookup m = none ∧
  t σ H1 fun vs H2 => tk σ H2 fun zs H3 => vs.length = n ∧ zs.length = j ∧ sp (gV (x :: vs) zs) H3 Q E
section
variable {X : Cx} {CX : CXT} {k n j : Nat} {f C : Addr} {fd : FuncData} {ps ks : List Str} {sp : Sp} {E : XK} {o e : Expr} {es : List Expr} {to : TE} {t tk : TA} {kws : List Keyword} {m : Str} {apos pos : Pos} {gV : List V → List V → List V}
theorem pe_methN0 {pl : Sem Bool} (he : PE X o to) (c : Cls X.K C) (hm : Meth X.K C m f) (F : FnOk X.prog X.w X.K X.mg X.base CX k f fd ps sp) (hr : Room k X.A) (hb : ∃ g, KBn X.K fd ps 1 ks g gV) (hx : Passes CX X E)
    (hkw : PK X kws tk) (hall : (backToKw pos (keywordEach kws X.env)).all (·.1.isSome) = true := by rfl) (hks : (backToKw pos (keywordEach kws X.env)).filterMap (·.1) = ks := by rfl)
    (hn : j = ks.length := by rfl) (hpl : ((backTo pos (starEach [] X.env)).any (·.1) || (backToKw pos (keywordEach kws X.env)).any (·.1.isNone)) = false := by rfl)
    (ht : eval (.Call (.Attribute o m apos) [] kws pos) X.env = (eval o X.env >>= fun ov => standAt apos.atName >>= fun _ => holding [ov] (getMethod ov m pl) >>= fun fx => callWith pos fx.1 fx.2 (backTo pos (starEach [] X.env)) (backToKw pos (keywordEach kws X.env))) := by rfl) :
    PE X (.Call (.Attribute o m apos) [] kws pos) (tMethN C m 0 j sp gV E to tNil tk) := by
  subst hn
  obtain ⟨g, hb⟩ := hb
  refine ⟨fun pins s σ H Q I h => PySem.W.methodCall_KW (pl := pl) (thn (he.run pins s σ H _ I h) fun u s1 ⟨x, H1, I1, rx, a, dx, fs, ex, ea, lk, q⟩ => ?_) ht⟩
  subst ex
  obtain rfl : u = Value.ref a := rx
  refine getmeth_ok I1 ea c hm lk (PySem.W.callWith_KW0 (first := [.ref a]) (h₀ := X.base) I.ok.mod.kin hm.kp hall (thn (hkw.run pos pins s1 σ H1 _ I1 q) fun ws s2 ⟨zs, H2, I2, rz, _, hl, q2⟩ => ⟨I2.kIn, ?_⟩) hpl)
  rw [hks]
  exact run_fnN (vs := [.ref a]) F hr hb hx I2 (.cons rfl .nil) rz rfl hl q2
theorem pe_methN {pl : Sem Bool} (he : PE X o to) (c : Cls X.K C) (hm : Meth X.K C m f) (F : FnOk X.prog X.w X.K X.mg X.base CX k f fd ps sp) (hr : Room k X.A) (hb : ∃ g, KBn X.K fd ps (n + 1) ks g gV) (hx : Passes CX X E) (ha : PA X (e :: es) t)
    (hkw : PK X kws tk) (hall : (backToKw pos (keywordEach kws X.env)).all (·.1.isSome) = true := by rfl) (hks : (backToKw pos (keywordEach kws X.env)).filterMap (·.1) = ks := by rfl)
    (hn : j = ks.length := by rfl) (hpl : ((backTo pos (starEach (e :: es) X.env)).any (·.1) || (backToKw pos (keywordEach kws X.env)).any (·.1.isNone)) = false := by rfl) (hs : starEach (e :: es) X.env = (false, eval e X.env) :: starEach es X.env := by rfl)
    (ht : eval (.Call (.Attribute o m apos) (e :: es) kws pos) X.env = (eval o X.env >>= fun ov => standAt apos.atName >>= fun _ => holding [ov] (getMethod ov m pl) >>= fun fx => callWith pos fx.1 fx.2 (backTo pos (starEach (e :: es) X.env)) (backToKw pos (keywordEach kws X.env))) := by rfl) :
    PE X (.Call (.Attribute o m apos) (e :: es) kws pos) (tMethN C m n j sp gV E to t tk) := by
  subst hn
  obtain ⟨g, hb⟩ := hb
  refine ⟨fun pins s σ H Q I h => PySem.W.methodCall_KW (pl := pl) (thn (he.run pins s σ H _ I h) fun u s1 ⟨x, H1, I1, rx, a, dx, fs, ex, ea, lk, q⟩ => ?_) ht⟩
  subst ex
  obtain rfl : u = Value.ref a := rx
  refine getmeth_ok I1 ea c hm lk (PySem.W.callWith_KW (first := [.ref a]) (h₀ := X.base) I.ok.mod.kin hm.kp hall (thn (ha.run pos pins s1 σ H1 _ I1 q) fun us s2 ⟨vs, H2, I2, r, q2⟩ => thn (hkw.run pos pins s2 σ H2 _ I2 q2) fun ws s3 ⟨zs, H3, I3, rz, l1, l2, q3⟩ => ⟨I3.kIn, ?_⟩) hpl hs)
  rw [hks]
  exact run_fnN (vs := .ref a :: vs) F hr hb hx I3 (.cons rfl r) rz (by rw [List.length_cons, l1]) l2 q3
theorem pe_makeKE {x : Str} {p : Pos} (M : Mk X.K C f) (F : FnOk X.prog X.w X.K X.mg X.base CX k f fd ps sp) (hr : Room (k + 1) X.A) (hg : Gl X x) (hm : X.mg x = some (.ref C)) (hb : ∃ g, KBn X.K fd ps 1 ks g gV) (hx : Passes CX X E) (hkw : PK X kws tk)
    (hall : (backToKw pos (keywordEach kws X.env)).all (·.1.isSome) = true := by rfl) (hks : (backToKw pos (keywordEach kws X.env)).filterMap (·.1) = ks := by rfl) (hdb : (x == ("__debug__" : Str)) = false := by decide) (hn : j = ks.length := by rfl)
    (hpl : ((backTo pos (starEach [] X.env)).any (·.1) || (backToKw pos (keywordEach kws X.env)).any (·.1.isNone)) = false := by rfl) : PE X (.Call (.Name x p) [] kws pos) (tMakeK C 0 j sp gV E tNil tk) := by
  subst hn
  obtain ⟨g, hb⟩ := hb
  exact pe_makeK0 M F hr hg hm hb hx hkw hall hks hdb hpl
end
end B
/-! B: promises kept where no repr is under way (the guards are known to be none), from the top on; repr of a list -/
namespace B
open PySem PySem.Spec PyProof.Rows L2
/-- the promise sp is kept by the def at f wherever no guard stands -/
structure FnG (P : Program) (w : World) (K : Fg) (mg : Str → Option Value) (base : Heap) (k : Nat) (f : Addr) (fd : FuncData) (ps : List Str) (sp : Sp) : Prop where
  ln : ∀ vs H Q E, sp vs H Q E → vs.length = ps.length
  go : ∀ {A : Around} {outer : List Env} {s : Shared} {H : Hp} {args : Args} {us : List Value} {vs : List V} {Q : VK} {E : XK}, A.guards = some [] → Room k A → Env0 P w K mg base A outer s H → BindsTo s fd args (ps.zip us) → Vals vs us → sp vs H Q E →
    codeAny (model P w) A (.call (.ref f) args) (CR CX0 outer P w H s Q E) s
section
variable {P : Program} {w : World} {K : Fg} {mg : Str → Option Value} {base : Heap}
/-- how a body's end is a call's end -/
theorem end_of {X : Cx} {Q : VK} {E : XK} {outer : List Env} {H : Hp} {s s' : Shared} {N : List Str} {qual : Str} {sc : Scope} {f : Addr} {cd : Value} {A : Around} {σ : L2.St} {H' : Hp} {v : V} {u : Value}
    (J : Inv (cxOf CX0 P w K mg base N qual sc f cd A outer s H E) [] σ H' s') (r : RelV v u) (q : Q v H') : CE outer P w H s Q u s' := ⟨v, H', J.os, J.bare, J.base, J.hok, r, q⟩
theorem okG {x qual : Str} {st : Stmt} {f : Addr} {fd : FuncData} {N ps : List Str} {k : Nat} {sp : Sp} (F : Fun K x qual st f fd) (S : FnScope N ps (defScope st)) (ln : ∀ vs H Q E, sp vs H Q E → vs.length = ps.length)
    (body : ∀ (cd : Value) (A : Around), A.guards = some [] → ∀ (outer : List Env) (s : Shared) (H : Hp) (vs : List V) (Q : VK) (E : XK), Room k (A.deeper (envOfC qual (defScope st) s.heap.objs.size f cd)) → sp vs H Q E →
      ∃ t, PSs (cxOf CX0 P w K mg base N qual (defScope st) f cd A outer s H E).nox (defBody st) t ∧ t { nx := fun _ H' => Q .non H', rt := Q } (start N vs) H) : FnG P w K mg base (k + 1) f fd ps sp := by
  obtain ⟨oc, od, kV, doc, pm, an, cd, ct, osl, rfl, lk, hcd⟩ := F.ex
  refine ⟨ln, fun {A outer s H args us vs Q E} hg hr e0 hb r h => ?_⟩
  have same : ∀ b o, base.get? b = some o → s.heap.get? b = some o := fun b o z => (e0.bs b o z).1
  have inK := e0.mod.kin.keeps same
  obtain ⟨t, ht, q⟩ := body cd A hg outer s H vs Q E (hr.deeper _) h
  refine codeAny_call_function hr.depth (inK _ _ lk) rfl S.co S.gen rfl (PySem.W.codeRec_of inK hcd) (hb _ _ _ _ (wpAny_newFunctionEnv_cells S.kind (fun y hy => ?_) fun env he s1 z => ?_))
  · obtain ⟨n, v⟩ := y
    exact (S.par n (List.of_mem_zip hy).1).imp id fun c => ⟨c, PySem.W.cellsFrom_some _ _ _ (.inl c)⟩
  · subst he
    refine ⟨(e0.mod.nolimit.keeps same).keeps z.toInCall.keep, codeAny_func (wpAny_mono (ht.nox.run [] s1 (start N vs) H _ (inv_start S hr.hd e0 (ln _ _ _ _ h) r z) q) (fun fl s' d => ?_) fun _ _ d => d)⟩
    cases fl with
    | ret u => obtain ⟨v, σ', H', J, rv, d⟩ := d; exact end_of (X := cxOf CX0 P w K mg base N qual (defScope st) f cd A outer s H E) J rv d
    | next => obtain ⟨σ', H', J, d⟩ := d; exact end_of (X := cxOf CX0 P w K mg base N qual (defScope st) f cd A outer s H E) (v := .non) J rfl d
    | brk => obtain ⟨_, _, _, d⟩ := d; exact d.elim
    | cont => obtain ⟨_, _, _, d⟩ := d; exact d.elim
end
section
variable {X : Cx} {k : Nat} {f : Addr} {fd : FuncData} {ps : List Str} {sp : Sp} {E : XK} {x : Str} {p pos : Pos} {e : Expr} {es : List Expr} {t : TA}
theorem pe_callG (F : FnG X.prog X.w X.K X.mg X.base k f fd ps sp) (gd : X.A.guards = some []) (hr : Room k X.A) (hg : Gl X x) (hm : X.mg x = some (.ref f)) (hk : PySem.W.keepIn X.K (.ref f) = true) (hb : Binds X.K fd ps []) (hx : Passes CX0 X E) (ha : PA X (e :: es) t)
    (hdb : (x == ("__debug__" : Str)) = false := by decide) (he : starEach (e :: es) X.env = (false, eval e X.env) :: starEach es X.env := by rfl) (hpl : (backTo pos (starEach es X.env)).any (·.1) = false := by rfl) :
    PE X (.Call (.Name x p) (e :: es) [] pos) (tCall sp [] E t) :=
  ⟨fun pins s σ H Q I h => wpAny_Call_Name_kw (ld_glob I hg hm (PySem.W.callWith_K (h₀ := X.base) I.ok.mod.kin hk (thn (ha.run pos pins s σ H _ I h) fun us s1 ⟨vs, H1, I1, r, q⟩ => ⟨I1.kIn, by
    have q' : sp vs H1 Q E := by have := q; simp only [List.append_nil] at this; exact this
    have hl : us.length = ps.length := r.length.symm.trans (F.ln _ _ _ _ q')
    have bd : BindsTo s1 fd ⟨us, []⟩ (ps.zip us) := by have := hb s1 us I1.kIn (by simpa using hl); simpa using this
    refine wpAny_call (codeAny_mono (F.go gd hr I1.env0 bd r q') fun r s' d => ?_)
    cases r with
    | error e => exact hx pins σ H1 s1 e s' I1 d
    | ok fl => cases fl <;> first | exact I1.after d | exact d.elim⟩) he hpl) hdb)⟩
end
/-! ### the top -/
/-- the abstract heap at the top: the script alone, and that only where it is none of the module's own things -/
def topH (K : Fg) (a : Addr) (o : Obj) (ns : List Int) : Hp := fun b => if b = a ∧ K.lookup a = none then some (.frz o (.lst (ns.map V.int))) else none
theorem topH_some {K : Fg} {a b : Addr} {o : Obj} {ns : List Int} {u : HO} (h : topH K a o ns b = some u) : b = a ∧ K.lookup a = none ∧ u = .frz o (.lst (ns.map V.int)) := by
  unfold topH at h
  split at h
  · rename_i c; exact ⟨c.1, c.2, (Option.some.inj h).symm⟩
  · cases h
theorem topH_none {K : Fg} {a b : Addr} {o : Obj} {ns : List Int} (h : ¬ (b = a ∧ K.lookup a = none)) : topH K a o ns b = none := if_neg h
section
variable {P : Program} {w : World} {K : Fg} {mg mb : Str → Option Value} {a fa : Addr} {s : Shared} {vs : List Value} {ns : List Int} {k : Nat} {fd : FuncData} {x : Str} {sp : Sp}
theorem top_seq (KX : K.In s.heap) (ha : s.heap.get? a = some { cls := .type "list", data := .seq vs.toArray }) (hi : IntsAre vs ns) (hl : ns.length ≤ sizeLine) : SqL K (topH K a { cls := .type "list", data := .seq vs.toArray } ns) a (ns.map V.int) := by
  cases e : K.lookup a with
  | none => exact .inl (.inr ⟨_, if_pos ⟨rfl, e⟩⟩)
  | some o =>
    have := (KX a o e).symm.trans ha
    cases this
    exact .inr ⟨_, vs.toArray, _, e, rfl, rfl, rfl, by rw [List.size_toArray, hi.length]; exact hl, by simpa using vals_ints hi⟩
theorem top_ok (ha : s.heap.get? a = some { cls := .type "list", data := .seq vs.toArray }) (hi : IntsAre vs ns) (hl : ns.length ≤ sizeLine) : HOk P w (topH K a { cls := .type "list", data := .seq vs.toArray } ns) s.heap := fun b u z => by
  obtain ⟨rfl, _, rfl⟩ := topH_some z
  exact ⟨ha, by rw [List.length_map]; exact hl, vs, _, vals_ints hi, ha⟩
theorem top_env (KX : K.In s.heap) (hns : s.heap.Ns mainGlobals mg) (hb : s.heap.Ns builtinsNs mb) (hbb : ∀ x : Str, x ≠ "__name__" → mb x = bootBuiltins x) (hlim : s.heap.NoLimit) (hg : s.gens = #[]) (ha : s.heap.get? a = some { cls := .type "list", data := .seq vs.toArray }) (hi : IntsAre vs ns) (hl : ns.length ≤ sizeLine) :
    K.In (hidT s.heap (topH K a { cls := .type "list", data := .seq vs.toArray } ns)) ∧ (hidT s.heap (topH K a { cls := .type "list", data := .seq vs.toArray } ns)).Ns mainGlobals mg ∧
      Env0 P w K mg (hidT s.heap (topH K a { cls := .type "list", data := .seq vs.toArray } ns)) callerA [] s (topH K a { cls := .type "list", data := .seq vs.toArray } ns) := by
  let H := topH K a { cls := .type "list", data := .seq vs.toArray } ns
  have stay : ∀ {b : Addr} {o : Obj}, s.heap.get? b = some o → (b = a → K.lookup a = none → False) → (hidT s.heap H).get? b = some o := fun z n => hidT_get z (topH_none fun c => n c.1 c.2)
  have ns' : ∀ {b : Addr} {m : Str → Option Value}, s.heap.Ns b m → (hidT s.heap H).Ns b m := fun {b m} z => by
    obtain ⟨o, es, ep, z1, z2, z3⟩ := z
    refine ⟨o, es, ep, stay z1 fun c _ => ?_, z2, z3⟩
    subst c
    rw [ha] at z1
    cases z1
    cases z2
  have kin : K.In (hidT s.heap H) := fun b o z => stay (KX b o z) fun c n => by subst c; rw [n] at z; cases z
  obtain ⟨mc, l1, l2⟩ := hlim
  exact ⟨kin, ns' hns, rfl, ⟨kin, ns' hns, ⟨mb, ns' hb, hbb⟩, mc, ns' l1, l2⟩, fun b o z => of_hidT z, Nat.le_of_eq (hidT_size _ _), trivial, fun b z => (nomatch z), top_ok ha hi hl, .of_eq hg⟩
theorem top_law (KX : K.In s.heap) (hns : s.heap.Ns mainGlobals mg) (hb : s.heap.Ns builtinsNs mb) (hbb : ∀ x : Str, x ≠ "__name__" → mb x = bootBuiltins x) (hlim : s.heap.NoLimit) (hg : s.gens = #[]) (ha : s.heap.get? a = some { cls := .type "list", data := .seq vs.toArray }) (hi : IntsAre vs ns) (hl : ns.length ≤ sizeLine)
    (hr : Room k callerA) (F : ∀ base : Heap, K.In base → base.Ns mainGlobals mg → FnG P w K mg base k fa fd [x] sp) (hbind : ∀ (s : Shared) (u : Value), BindsTo s fd ⟨[u], []⟩ [(x, u)])
    (hsp : ∀ H : Hp, Only H → SqL K H a (ns.map V.int) → sp [.ref a] H (fun v _ => v = .bl true) fun _ _ _ => False) :
    codeAny (model P w) callerA (.call (.ref fa) ⟨[.ref a], []⟩) (fun r s' => r = .ok (.ret (.bool true)) ∧ OldK s.heap s'.heap ∧ s'.os = s.os ∧ AllBare s'.gens) s := by
  obtain ⟨kin, hn, e0⟩ := top_env (P := P) (w := w) KX hns hb hbb hlim hg ha hi hl
  have only : Only (topH K a { cls := .type "list", data := .seq vs.toArray } ns) := fun b => by
    cases z : topH K a { cls := .type "list", data := .seq vs.toArray } ns b with
    | none => exact .inl rfl
    | some u => obtain ⟨_, _, rfl⟩ := topH_some z; exact .inr ⟨_, _, rfl⟩
  refine codeAny_mono ((F _ kin hn).go (us := [.ref a]) (vs := [.ref a]) rfl hr e0 (hbind s (.ref a)) (.cons rfl .nil) (hsp _ only (top_seq KX ha hi hl))) fun r s' d => ?_
  cases r with
  | error e => exact absurd d (by intro z; exact z.elim)
  | ok fl =>
    cases fl with
    | next => exact d.elim
    | brk => exact d.elim
    | cont => exact d.elim
    | ret u =>
      obtain ⟨v, H', hos, hbare, un, ok', rv, rfl⟩ := d
      cases (show u = Value.bool true from rv)
      refine ⟨rfl, OldK.of_keep fun b o z => ?_, hos, hbare⟩
      cases q : topH K a { cls := .type "list", data := .seq vs.toArray } ns b with
      | none => exact un.keep b o z q (fun c => nomatch c) (fun c => nomatch c)
      | some u =>
        obtain ⟨rfl, _, rfl⟩ := topH_some q
        have := (ok' _ _ (un.frzs _ _ _ q)).1
        rw [ha] at z
        cases z
        exact this
end
theorem walkG {l : PySem.W.OpenLaw} {n k : Nat} {q : Program} {loose : List Str} {XP : (Str → Option Value) → Heap → Prop} {YP : World → Heap → Prop} {d : DefRec} {K : Params → Fg} {sp : World → Sp} {x : Str} (hn : l.most = some n) (hn2 : n ≤ sizeLine) (hdf : d.params.defaults = []) (hr : Room k callerA)
    (hY : ∀ (w : World) (h : Heap), YP w h → (K w.params).In h)
    (F : ∀ (w : World) (mg : Str → Option Value) (fa : Addr) (h : Heap), (K w.params).In h → h.Ns mainGlobals mg → mg d.name = some (.ref fa) → ∃ fd : FuncData, (∀ (s : Shared) (u : Value), BindsTo s fd ⟨[u], []⟩ [(x, u)]) ∧
      ∀ base : Heap, (K w.params).In base → base.Ns mainGlobals mg → FnG l.prog w (K w.params) mg base k fa fd [x] (sp w))
    (hsp : ∀ (w : World) (H : Hp) (a : Addr) (ns : List Int), ns.length ≤ n → Only H → SqL (K w.params) H a (ns.map V.int) → sp w [.ref a] H (fun v _ => v = .bl true) fun _ _ _ => False) :
    PySem.W.WalkO q loose XP YP l.row.toRowW d [] (fun f vs => PySem.call f vs) :=
  Att.attach_call hn hdf fun w s₀ s₁ mg mb fa o pm cd doc a vs ns G Y ho hd hcd hmg hobj hints hlen hg => by
    obtain ⟨fd, hb, hF⟩ := F w mg fa _ (hY w _ Y) G.T.g hmg
    exact top_law (hY w _ Y) G.T.g G.T.b G.T.builtins G.T.nolimit hg hobj hints (Nat.le_trans hlen hn2) hr hF hb fun H hO hS => hsp w H a ns hlen hO hS
/-! ### repr(list) -/
def rRepr (K : Fg) : List V → Hp → VK → Prop := fun vs H Q => ∃ x d, vs = [x] ∧ Dp K H x (.list d) ∧ PyData.showableAll d = true ∧ PyData.hasDictAll d = false ∧ PyData.depthAll d ≤ 40 ∧ (listText (PyData.shownAll d)).length ≤ sizeLine ∧ Q (.str (listText (PyData.shownAll d))) H
section
variable {prog : Program} {w : World} {A : Around} {E : Value → Shared → Prop} {s : Shared}
theorem repr_list {v : Value} {d : List PyData} {az : List Addr} {Q : Value → Shared → Prop} (r : Reads s.heap v (.list d) az) (hs : PyData.showableAll d = true) (hd : PyData.hasDictAll d = false) (hg : A.guards = some []) (hu : A.units + 60 < cLine) (h40 : PyData.depthAll d ≤ 40) (hz : (listText (PyData.shownAll d)).length ≤ sizeLine)
    (hQ : ∀ h' u tk, (∀ b o, s.heap.get? b = some o → h'.get? b = some o) → Q (.str (listText (PyData.shownAll d)) u) { s with heap := h', toks := tk }) : wpAny (model prog w) A (call (.builtin "repr") [v]) Q E s := by
  have r0 := r
  cases r with
  | list h1 h2 h3 h4 =>
    rename_i a o vs n az'
    obtain ⟨bs, hb, hk⟩ := ReprAllK.of_readsAll (prog := prog) (w := w) h4 hs (fun hx => by rw [hd] at hx; cases hx) (fun t ht => Nat.le_trans (listText_mem_le ht) hz)
    have hna : a ∉ bs := not_mem_of_deeper r0 (by simp only [PyData.depth]; omega) hb
    have hTy : s.TypeIs (.ref a) "list" := ⟨o, h1, h2⟩
    refine Calls.call_function_entry F.kind_repr F.plain_repr F.entry_repr (F.args_repr1 _) ?_
    unfold Builtin.«repr»
    refine wpAny_bind (m := oneArg "repr" _) (wpAny_pure ?_)
    refine wpAny_bind (wpAny_cRoomFor (by show A.units + 1 < _; omega) ?_)
    refine wpAny_bind (wpAny_specialOf (name := Str.ofString "__repr__") hTy F.slot_list_repr.lookup ?_)
    have fin : ∀ h' u tk, (∀ b o, s.heap.get? b = some o → h'.get? b = some o) → wpAny (model prog w) A.in1 (isInstance (.str (listText (PyData.shownAll d)) u) (.type "str") >>= fun b => if b = true then ret (.str (listText (PyData.shownAll d)) u) else rule "repr.not-str" >>= fun _ => typeNameOf (.str (listText (PyData.shownAll d)) u) >>= fun nm => raiseError "TypeError" s!"__repr__ returned non-string (type {nm})")
        (fun fin s' => ∃ v, fin = .done (.ret v) ∧ Q v s') E { s with heap := h', toks := tk } := fun h' u tk hk =>
      wpAny_bind (wpAny_isInstance (T := "str") (b := true) rfl isSubtype_str_str (wpAny_pure ⟨_, rfl, hQ h' u tk hk⟩))
    obtain ⟨l⟩ := vs
    refine wpAny_bind (m := callSpecialIfBound? (.ref a) (Str.ofString "__repr__")) (wpAny_callSpecialIfBound?_slot (name := Str.ofString "__repr__") hTy F.slot_list_repr ?_)
    cases l with
    | nil =>
      have h4' : ReadsAll s.heap [] d _ := h4
      cases h4'
      exact call_list_repr_empty hTy h1 h3 (fin s.heap _ _ fun _ _ e => e)
    | cons x l =>
      exact call_list_reprK h1 h2 h3 hna (by simpa using hk.length_eq) (fun i y e => hk.item i y (by simpa using e)) (show A.in1.guards = some [] from hg) (fun b _ => Clear.nil b) (by show A.units + 1 + _ < _; omega) (fun _ _ e => e) (fun h' u tk hk' => fin h' u tk hk') hz
end
theorem cr_repr {X : Cx} (hg : X.A.guards = some []) (hu : X.A.units + 64 < cLine) : CallR X (.builtin "repr") (rRepr X.K) := by
  intro pins s σ H xs us Q I r h
  obtain ⟨x, d, rfl, hd, h1, h2, h3, h4, q⟩ := h
  obtain ⟨u, rfl, ru⟩ := vals1 r
  obtain ⟨az, rd⟩ := Dp.reads I _ _ _ hd ru
  exact repr_list rd h1 h2 hg (by omega) h3 h4 fun h' u tk hk => ⟨.str _, H, I.kept hk, ⟨_, rfl⟩, q⟩
end B
/-! B: dicts that change, told by any expression; dict comprehensions with tests; sorted keys -/
namespace B
open PySem L2
open PySem.W (Tup T3 T4 Datum DatumOrd)
open Evl (Ex)
section
variable {κ α : Type} [DecidableEq κ] [PyKey κ] [Py α] {K : Fg} {W W' : Wd} {d : Addr} {kv : List (κ × α)} {ε : Ef} {σ : SS} {te ty tv tx : TE}
/-- the dict at d holds kv, now and while ε is at work -/
def DStay {κ α : Type} [PyKey κ] [Py α] (ε : Ef) (K : Fg) (W : Wd) (d : Addr) (kv : List (κ × α)) : Prop := ∀ W', Stp ε W W' → ∃ ks, W'.H d = some (.dK ks) ∧ KReps K W'.B ks kv
theorem DMut.stay (m : DMut K W d kv) (hS : d ∉ ε.S) : DStay ε K W d kv := fun _ g => (m.s g hS).ex
theorem DMut.pur (m : DMut K W d kv) : DStay pur K W d kv := fun _ g => (m.gr g.pure).ex
theorem DictAt.stay {D : Dict κ α} (h : DictAt K W (.ref d) D) : DStay ε K W d D.kv := fun W' g => by
  obtain ⟨a, ks, e, _, h2, r⟩ := h.s g
  cases e
  exact ⟨ks, h2, r⟩
/-- d.get(k, x) -/
theorem ev_dget2E {k : κ} {x : α} (hd : EvR ε K te σ W (Raw.mk (.ref d))) (m : DStay ε K W d kv) (hk : EvP ε ty σ W (fun u _ => u = kV (PyKey.key k))) (hx : EvR ε K tx σ W x) : EvR ε K (tDGet2 te ty tx) σ W ((klook kv k).getD x) := fun W1 g1 Q q => hd W1 g1 _ fun v W1' g1' e => by
  obtain ⟨ks, e1, r⟩ := m _ (g1.trans g1')
  refine ⟨d, e, .inl ⟨ks, .inl e1⟩, hk W1' (g1.trans g1') _ fun u W2 g2 eu => hx W2 ((g1.trans g1').trans g2) _ fun w W3 g3 rw => ?_⟩
  obtain ⟨ks, e3, r⟩ := m _ (((g1.trans g1').trans g2).trans g3)
  rcases klk r k with ⟨h1, h2⟩ | ⟨y, v, h1, h2, h3⟩
  · exact ⟨none, .inl ⟨ks, _, .inl e3, eu, h2.symm⟩, q _ W3 ((g1'.trans g2).trans g3) (by rw [h1]; exact rw)⟩
  · exact ⟨some v, .inl ⟨ks, _, .inl e3, eu, h2.symm⟩, q _ W3 ((g1'.trans g2).trans g3) (by rw [h1]; exact h3)⟩
/-- d[k] -/
theorem ev_dgetE {k : κ} {x : α} (hd : EvR ε K te σ W (Raw.mk (.ref d))) (m : DStay ε K W d kv) (hk : EvP ε ty σ W (fun u _ => u = kV (PyKey.key k))) (hx : klook kv k = some x) : EvR ε K (tDGet te ty) σ W x := fun W1 g1 Q q => hd W1 g1 _ fun v W1' g1' e => hk W1' (g1.trans g1') _ fun u W2 g2 eu => by
  obtain ⟨ks, e3, r⟩ := m _ ((g1.trans g1').trans g2)
  obtain ⟨v, h1, h2⟩ := r.some hx
  exact ⟨d, v, e, .inl ⟨ks, _, .inl e3, eu, h1.symm⟩, q _ W2 (g1'.trans g2) h2⟩
/-- k in d -/
theorem ev_dinE {k : κ} (hd : EvR ε K te σ W (Raw.mk (.ref d))) (m : DStay ε K W d kv) (hk : EvP ε ty σ W (fun u _ => u = kV (PyKey.key k))) : EvR ε K (tDIn ty te) σ W (decide (k ∈ kv.map (·.1))) := fun W1 g1 Q q => hk W1 g1 _ fun u W2 g2 eu => hd W2 (g1.trans g2) _ fun v W3 g3 e => by
  obtain ⟨ks, e3, r⟩ := m _ ((g1.trans g2).trans g3)
  rcases klk r k with ⟨h1, h2⟩ | ⟨y, v, h1, h2, h3⟩
  · refine ⟨d, none, e, .inl ⟨ks, _, .inl e3, eu, h2.symm⟩, q _ W3 (g2.trans g3) ?_⟩
    show V.bl _ = V.bl _
    rw [decide_eq_false (klook_none.mp h1)]; rfl
  · refine ⟨d, some v, e, .inl ⟨ks, _, .inl e3, eu, h2.symm⟩, q _ W3 (g2.trans g3) ?_⟩
    show V.bl _ = V.bl _
    rw [decide_eq_true (List.mem_map.mpr ⟨_, klook_mem h1, rfl⟩)]; rfl
/-- len(d) -/
theorem ev_lenDE (hd : EvR ε K te σ W (Raw.mk (.ref d))) (m : DStay ε K W d kv) : EvR ε K (tCB rLenD (tCons te tNil)) σ W (kv.length : Int) := fun W1 g1 Q q => hd W1 g1 _ fun v W2 g2 e => by
  obtain ⟨ks, e3, r⟩ := m _ (g1.trans g2)
  refine ⟨d, ks, by rw [show v = V.ref d from e], e3, ?_⟩
  rw [KReps.len r]
  exact q _ W2 g2 rfl
/-- d[k] = v -/
theorem s_dputE {D : Ends} {k : κ} {x : α} (hd : EvR pur K te σ W (Raw.mk (.ref d))) (m : DMut K W d kv) (hv : EvR pur K tv σ W x) (hk : EvP pur ty σ W (fun u _ => u = kV (PyKey.key k))) (hl : kv.length < 100000)
    (q : ∀ W', Md [d] W W' → On W W' → DMut K W' d (kput kv k x) → D.nx σ W'.H) : sDPut te ty tv D σ W.H := hv W (.start trivial) _ fun v W1 g1 rv => hd W1 g1 _ fun v0 W1' g1' e0 => hk W1' (g1.trans g1') _ fun u W2 g2 e => by
  have g := ((g1.trans g1').trans g2).pure
  obtain ⟨ks, e1, r⟩ := (m.gr g).ex
  have b := (m.gr g).b
  exact ⟨d, _, e0, .inl ⟨ks, PyKey.key k, e1, e, by rw [KReps.len r]; exact Evl.sz_lt hl, rfl⟩, q (W2.put d _ b) ((Grow.s g).trans (md_put b)) (g.on.trans (md_put b).on) ⟨b, _, upd_same, KReps.put r k (rep_s (g1'.trans g2) rv)⟩⟩
theorem q_dputE {D : Ends} {tz : TS} {k : κ} {x : α} (hd : EvR pur K te σ W (Raw.mk (.ref d))) (m : DMut K W d kv) (hv : EvR pur K tv σ W x) (hk : EvP pur ty σ W (fun u _ => u = kV (PyKey.key k))) (hl : kv.length < 100000)
    (q : ∀ W', Md [d] W W' → On W W' → DMut K W' d (kput kv k x) → tz D σ W'.H) : tSeq (sDPut te ty tv) tz D σ W.H := s_dputE (D := { D with nx := tz D }) hd m hv hk hl q
/-- d.pop(k), the value left alone -/
theorem s_dpopE {D : Ends} {k : κ} {x : α} (hd : EvR pur K te σ W (Raw.mk (.ref d))) (m : DMut K W d kv) (hk : EvP pur ty σ W (fun u _ => u = kV (PyKey.key k))) (hx : klook kv k = some x)
    (q : ∀ W', Md [d] W W' → On W W' → DMut K W' d (kdrop kv k) → D.nx σ W'.H) : tDrop (tDPop1 te ty) D σ W.H := hd W (.start trivial) _ fun v0 W1 g1 e0 => by
  obtain ⟨ks, e1, r⟩ := (m.gr g1.pure).ex
  refine ⟨d, e0, .inl ⟨ks, .inl e1⟩, hk W1 g1 _ fun u W2 g2 e => ?_⟩
  have g := (g1.trans g2).pure
  obtain ⟨ks, e1, r⟩ := (m.gr g).ex
  have b := (m.gr g).b
  obtain ⟨v, h1, h2⟩ := r.some hx
  exact ⟨ks, PyKey.key k, v, e1, e, h1, q (W2.put d _ b) ((Grow.s g).trans (md_put b)) (g.on.trans (md_put b).on) ⟨b, _, upd_same, KReps.drop r k⟩⟩
/-- d, where it is a dict that stays -/
theorem DictAt.mut' {v : V} {κ α : Type} [PyKey κ] [Py α] {D : Dict κ α} (h : DictAt K W v D) : ∃ a ks, v = .ref a ∧ W.H a = some (.dK ks) ∧ KReps K W.B ks D.kv := by
  obtain ⟨a, ks, e, _, h2, r⟩ := h
  exact ⟨a, ks, e, h2, r⟩
end
section
variable {κ : Type} [DecidableEq κ] [PyKey κ] {K : Fg} {W : Wd} {d : Addr} {kv : List (κ × Int)} {ε : Ef} {σ : SS} {te : TE}
/-- sum(d.values()) -/
theorem ev_sumVE (hd : EvR ε K te σ W (Raw.mk (.ref d))) (m : DStay ε K W d kv) : EvR ε K (tCB rSumV (tCons (tVals te) tNil)) σ W (kv.map (·.2)).sum := fun W1 g1 Q k => hd W1 g1 _ fun v W2 g2 e => by
  obtain ⟨ks, e3, r⟩ := m _ (g1.trans g2)
  refine ⟨d, ks, e, e3, fun v hv => ?_⟩
  refine ⟨v, d, ks, kv.map (·.2), rfl, upd_same, by rw [upd_ne (fun z => by rw [z, hv] at e3; cases e3)]; exact e3, kreps_ints r, ?_⟩
  exact k _ (W2.put v (viewHO v d) (W2.free hv)) (g2.and (W2.grow_put hv)) rfl
/-- min(d.values()) -/
theorem ev_minVE {i : Int} (hd : EvR ε K te σ W (Raw.mk (.ref d))) (m : DStay ε K W d kv) (h1 : i ∈ kv.map (·.2)) (h2 : ∀ y ∈ kv.map (·.2), i ≤ y) : EvR ε K (tCB rMinV (tCons (tVals te) tNil)) σ W i := fun W1 g1 Q k => hd W1 g1 _ fun v W2 g2 e => by
  obtain ⟨ks, e3, r⟩ := m _ (g1.trans g2)
  refine ⟨d, ks, e, e3, fun v hv => ?_⟩
  refine ⟨v, d, ks, kv.map (·.2), rfl, upd_same, by rw [upd_ne (fun z => by rw [z, hv] at e3; cases e3)]; exact e3, kreps_ints r, List.length_pos_of_mem h1, fun m' h3 h4 => ?_⟩
  have : m' = i := Int.le_antisymm (h4 i h1) (h2 m' h3)
  rw [this]
  exact k _ (W2.put v (viewHO v d) (W2.free hv)) (g2.and (W2.grow_put hv)) rfl
end
section
variable {κ α : Type} [PyKV κ] [Py α] {K : Fg} {W : Wd} {d : Addr} {kv : List (κ × α)} {ε : Ef} {σ : SS} {te : TE}
theorem kreps_keys {H H' : Hp} {ks : List (Key × V)} {kv : List (κ × α)} (r : KReps K H ks kv) : Reps K H' (ks.map fun q => kV q.1) (kv.map (·.1)) := by
  induction r with
  | nil => exact .nil
  | @cons p q _ _ a b ih => exact .cons (by show Py.rep K H' (kV p.1) q.1; rw [a.1]; exact PyKV.krep _ _ _) ih
/-- list(d) -/
theorem ev_listDE (hd : EvR ε K te σ W (Raw.mk (.ref d))) (m : DStay ε K W d kv) : EvR ε K (tCB rListD (tCons te tNil)) σ W (kv.map (·.1)) := fun W1 g1 Q q => hd W1 g1 _ fun v W2 g2 e => by
  obtain ⟨ks, e3, r⟩ := m _ (g1.trans g2)
  exact ⟨d, ks, by rw [show v = V.ref d from e], e3, fun p hp => q _ (W2.add p _) (g2.and (W2.grow_add hp)) ⟨p, _, rfl, upd_same, kreps_keys r⟩⟩
end
/-! ### keys in order -/
def sle (a b : Str) : Bool := decide (a.cps.toList ≤ b.cps.toList)
theorem sle_trans {a b c : Str} (h : sle a b = true) (h' : sle b c = true) : sle a c = true := by
  simp only [sle, decide_eq_true_eq] at *
  exact List.le_trans h h'
theorem sle_total (a b : Str) : sle a b = true ∨ sle b a = true := by
  simp only [sle, decide_eq_true_eq]
  exact List.le_total _ _
theorem sle_anti {a b : Str} (h : sle a b = true) (h' : sle b a = true) : a = b := by
  simp only [sle, decide_eq_true_eq] at *
  have := List.le_antisymm h h'
  cases a with
  | mk x => cases b with
    | mk y => exact congrArg Str.mk (Array.toList_inj.mp this)
theorem rising_pw : ∀ (r : List Str) (p : Str), PyProof.Rows.risingS p r = true → (p :: r).Pairwise (fun a b => sle a b = true)
  | [], p, _ => by simp
  | x :: r, p, h => by
    simp only [PyProof.Rows.risingS, Bool.and_eq_true, Bool.not_eq_true'] at h
    have ih := rising_pw r x h.2
    rw [List.pairwise_cons]
    have px : sle p x = true := by
      have := h.1
      rw [PyProof.Rows.ltCps_eq] at this
      have := of_decide_eq_false this
      simp only [sle, decide_eq_true_eq]
      exact List.not_lt.mp this
    refine ⟨fun a ha => ?_, ih⟩
    rcases List.mem_cons.mp ha with rfl | ha
    · exact px
    · exact sle_trans px ((List.pairwise_cons.mp ih).1 a ha)
theorem sorted_pw {ys : List Str} (h : PyProof.Rows.sortedS ys = true) : ys.Pairwise (fun a b => sle a b = true) := by
  cases ys with
  | nil => exact .nil
  | cons x r => exact rising_pw r x h
theorem str_sorted_uniq {xs ys : List Str} (hp : xs.Perm ys) (h1 : xs.Pairwise (fun a b => sle a b = true)) (h2 : ys.Pairwise (fun a b => sle a b = true)) : xs = ys :=
  hp.eq_of_pairwise (fun a b _ _ h h' => sle_anti h h') h1 h2
def sortS (xs : List Str) : List Str := xs.mergeSort sle
theorem sortS_perm (xs : List Str) : (sortS xs).Perm xs := List.mergeSort_perm _ _
theorem sortS_pw (xs : List Str) : (sortS xs).Pairwise (fun a b => sle a b = true) := List.pairwise_mergeSort (le := sle) (fun _ _ _ => sle_trans) (fun a b => by rcases sle_total a b with h | h <;> simp [h]) xs
theorem sortS_eq {xs ys : List Str} (hp : ys.Perm xs) (h : ys.Pairwise (fun a b => sle a b = true)) : ys = sortS xs := str_sorted_uniq (hp.trans (sortS_perm xs).symm) h (sortS_pw xs)
abbrev rSortedDS : List V → Hp → VK → Prop := fun xs H Q => ∃ (a : Addr) (kvs : List (Key × V)) (ks : List Str), xs = [.ref a] ∧ Rd H a (.dK kvs) ∧ kvs.map (·.1) = ks.map Sum.inr ∧ ks.length < 64 ∧ ∀ ys p, ys.Perm ks → PyProof.Rows.sortedS ys = true → H p = none → Q (.ref p) (upd H p (.lst (ys.map V.str)))
abbrev rSortedDI : List V → Hp → VK → Prop := fun xs H Q => ∃ (a : Addr) (kvs : List (Key × V)) (ks : List Int), xs = [.ref a] ∧ Rd H a (.dK kvs) ∧ kvs.map (·.1) = ks.map Sum.inl ∧ ks.length < 64 ∧ ∀ (ys : List Int) (p : Addr), ys.Perm ks → ys.Pairwise (· ≤ ·) → H p = none → Q (.ref p) (upd H p (.lst (ys.map V.int)))
theorem cr_sortedDS {X : Cx} (hc : X.calm = true := by rfl) : CallR X (.builtin "sorted") rSortedDS := call_sortedD hc
theorem cr_sortedDI {X : Cx} (hc : X.calm = true := by rfl) : CallR X (.builtin "sorted") rSortedDI := call_sortedDI hc
section
variable {α : Type} [Py α] {K : Fg} {W : Wd} {d : Addr} {ε : Ef} {σ : SS} {te : TE}
theorem kreps_keysS {H : Hp} {ks : List (Key × V)} {kv : List (Str × α)} (r : KReps K H ks kv) : ks.map (·.1) = (kv.map (·.1)).map Sum.inr := by
  induction r with
  | nil => rfl
  | cons a b ih => rw [List.map_cons, List.map_cons, List.map_cons, ih, a.1]; rfl
theorem kreps_keysI {H : Hp} {ks : List (Key × V)} {kv : List (Int × α)} (r : KReps K H ks kv) : ks.map (·.1) = (kv.map (·.1)).map Sum.inl := by
  induction r with
  | nil => rfl
  | cons a b ih => rw [List.map_cons, List.map_cons, List.map_cons, ih, a.1]; rfl
/-- sorted(d) -/
theorem ev_sortedDS {kv : List (Str × α)} (hd : EvR ε K te σ W (⟨kv⟩ : Dict Str α)) (hl : kv.length < 64) : EvR ε K (tCB rSortedDS (tCons te tNil)) σ W (sortS (kv.map (·.1))) := fun W1 g1 Q k => hd W1 g1 _ fun v W2 g2 ⟨a, ks, e, rd, r⟩ =>
  ⟨a, ks, kv.map (·.1), by rw [e], W2.sub.rd rd, kreps_keysS r, by simpa using hl, fun ys p h1 h2 hp => by
    rw [sortS_eq h1 (sorted_pw h2)]
    exact k _ (W2.add p _) (g2.and (W2.grow_add hp)) ⟨p, _, rfl, upd_same, str_reps _⟩⟩
theorem ev_sortedDI {kv : List (Int × α)} {ys : List Int} (hd : EvR ε K te σ W (⟨kv⟩ : Dict Int α)) (hl : kv.length < 64) (hp : ys.Perm (kv.map (·.1))) (ho : ys.Pairwise (· ≤ ·)) : EvR ε K (tCB rSortedDI (tCons te tNil)) σ W ys := fun W1 g1 Q k => hd W1 g1 _ fun v W2 g2 ⟨a, ks, e, rd, r⟩ =>
  ⟨a, ks, kv.map (·.1), by rw [e], W2.sub.rd rd, kreps_keysI r, by simpa using hl, fun zs p h1 h2 hp0 => by
    have e2 : zs = ys := (h1.trans hp.symm).eq_of_pairwise (fun a b _ _ h h' => Int.le_antisymm h h') h2 ho
    subst e2
    exact k _ (W2.add p _) (g2.and (W2.grow_add hp0)) ⟨p, _, rfl, upd_same, int_reps _⟩⟩
end
end B
/-! B: new dicts that may change: comprehensions with targets and tests, also over a locked dict -/
namespace B
open PySem L2
open PySem.W (Tup T3 T4 Datum DatumOrd)
open Evl (Ex)
/-- a new dict that may change -/
def EvM {κ α : Type} [DecidableEq κ] [PyKey κ] [Py α] (ε : Ef) (K : Fg) (te : TE) (σ : SS) (W : Wd) (kv : List (κ × α)) : Prop :=
  ∀ W1, Stp ε W W1 → ∀ Q : VK, (∀ p W2, Stp ε W1 W2 → W1.H p = none → DMut K W2 p kv → Q (.ref p) W2.H) → te σ W1.H Q
def kfill {κ α : Type} [DecidableEq κ] (l : List (κ × α)) : List (κ × α) := l.foldl (fun kv e => kput kv e.1 e.2) []
theorem kput_new {κ α : Type} [DecidableEq κ] {kv : List (κ × α)} {k : κ} {v : α} (h : k ∉ kv.map (·.1)) : kput kv k v = kv ++ [(k, v)] := by
  unfold kput
  rw [if_neg]
  intro z
  obtain ⟨q, h1, h2⟩ := List.any_eq_true.mp z
  exact h (List.mem_map.mpr ⟨q, h1, of_decide_eq_true h2⟩)
theorem kfill_app {κ α : Type} [DecidableEq κ] : ∀ (l kv : List (κ × α)), ((kv ++ l).map (·.1)).Nodup → l.foldl (fun kv e => kput kv e.1 e.2) kv = kv ++ l
  | [], kv, _ => by simp
  | e :: l, kv, n => by
    have h : e.1 ∉ kv.map (·.1) := by
      rw [List.map_append, List.nodup_append] at n
      intro z
      exact n.2.2 _ z e.1 (by simp) rfl
    rw [List.foldl_cons, kput_new h, kfill_app l (kv ++ [(e.1, e.2)]) (by simpa using n)]
    simp
theorem kfill_id {κ α : Type} [DecidableEq κ] {l : List (κ × α)} (n : (l.map (·.1)).Nodup) : kfill l = l := kfill_app l [] (by simpa using n)
theorem kfill_len {κ α : Type} [DecidableEq κ] : ∀ (l kv : List (κ × α)), (l.foldl (fun kv e => kput kv e.1 e.2) kv).length ≤ kv.length + l.length
  | [], kv => by simp
  | e :: l, kv => by
    rw [List.foldl_cons]
    have := kfill_len l (kput kv e.1 e.2)
    have := kput_len kv e.1 e.2
    rw [List.length_cons]; omega
section
variable {α β κ : Type} [Py α] [Py β] [DecidableEq κ] [PyKey κ] {K : Fg} {W : Wd} {σ : SS} {ε : Ef} {te tk tv : TE} {tt : TT} {wi : TI} {tg : TG} {vs : List Nat}
theorem EvM.toD {kv : List (κ × α)} (h : EvM ε K te σ W kv) : EvD ε K te σ W (⟨kv⟩ : Dict κ α) := fun W1 g1 Q k => h W1 g1 Q fun p W2 g2 f m => by
  obtain ⟨ks, e, r⟩ := m.ex
  exact k _ (W2.fix p _ e) (g2.fix f g1.i e m.b) ⟨p, ks, rfl, upd_same, e, KReps.mono (exExt (ex_fix e m.b)) r⟩
theorem EvM.is {kv kv' : List (κ × α)} (h : EvM ε K te σ W kv) (e : kv = kv') : EvM ε K te σ W kv' := e ▸ h
theorem em_new : EvM ε K tDNewK σ W ([] : List (κ × α)) := fun W1 g1 Q k p hp => k p (W1.put p (.dK []) (W1.free hp)) (g1.rf.and (W1.grow_put hp)) hp (DMut.new W1 hp)
theorem s_asgM {D : Ends} {i : Nat} {kv : List (κ × α)} (h : EvM ε K te σ W kv) (s : ε.I W) (k : ∀ p W', Stp ε W W' → W.H p = none → DMut K W' p kv → D.nx (σ.set i (some (.ref p))) W'.H) : tAsg te (gName i) D σ W.H := h W (.start s) _ k
theorem q_asgM {D : Ends} {tz : TS} {i : Nat} {kv : List (κ × α)} (h : EvM ε K te σ W kv) (s : ε.I W) (k : ∀ p W', Stp ε W W' → W.H p = none → DMut K W' p kv → tz D (σ.set i (some (.ref p))) W'.H) : tSeq (tAsg te (gName i)) tz D σ W.H := h W (.start s) _ k
theorem s_retM {D : Ends} {kv : List (κ × α)} (h : EvM ε K te σ W kv) (s : ε.I W) (k : ∀ p W', Stp ε W W' → W.H p = none → DMut K W' p kv → D.rt (.ref p) W'.H) : tRet te D σ W.H := h W (.start s) _ k
/-- {k: v for x in .. if t} -/
theorem em_dc {xs : List α} {p : α → Bool} {f : α → κ × β} {P : α → SS → SS → Wd → Prop} (hi : EvI ε K wi σ W xs) (hg : GT K tg P) (hw : ∀ x σ2 W', P x (wipe σ vs) σ2 W' → wipe σ2 vs = wipe σ vs)
    (ht : ∀ x W' σ2, x ∈ xs → Stp ε W W' → P x (wipe σ vs) σ2 W' → EvT ε tt σ2 W' (p x))
    (hk : ∀ x W' σ2, x ∈ xs → p x = true → Stp ε W W' → P x (wipe σ vs) σ2 W' → EvP ε tk σ2 W' (fun u _ => u = kV (PyKey.key (f x).1)))
    (he : ∀ x W' σ2, x ∈ xs → p x = true → Stp ε W W' → P x (wipe σ vs) σ2 W' → EvR ε K tv σ2 W' (f x).2)
    (hP : ∀ x σ2 W' W'', P x (wipe σ vs) σ2 W' → Stp ε W' W'' → P x (wipe σ vs) σ2 W'') (hl : xs.length < 100000) : EvM ε K (tDc wi tg tt tk tv vs) σ W (kfill ((xs.filter p).map f)) := fun W1 g1 Q k =>
  hi W1 g1 _ fun J S W2 g2 s2 sg src D hD => by
    have DS : D ∉ ε.S := Ef.off g2.i hD
    have ln : ∀ i, (kfill (((xs.take i).filter p).map f)).length ≤ i := fun i => by
      have h1 := kfill_len (((xs.take i).filter p).map f) ([] : List (κ × β))
      have h2 := List.length_filter_le p (xs.take i)
      have h3 : (xs.take i).length ≤ i := by rw [List.length_take]; omega
      rw [List.length_map] at h1
      have h4 : ([] : List (κ × β)).length = 0 := rfl
      unfold kfill
      omega
    refine ⟨fun i m H => m = xs.length - i ∧ i ≤ xs.length ∧ ∃ Wi, Wi.H = H ∧ Stp ε W2 Wi ∧ DMut K Wi D (kfill (((xs.take i).filter p).map f)), ⟨xs.length, rfl, Nat.zero_le _, W2.put D (.dK []) (W2.free hD), rfl, ⟨md_mut (.refl _ _) (W2.free hD) hD, i_put DS g2.i _⟩, DMut.new W2 hD⟩, ?_⟩
    rintro i m H ⟨rfl, hle, Wi, rfl, gi, dm⟩
    have si : S Wi := sg _ _ s2 gi
    by_cases hlt : i < xs.length
    · refine .inr ⟨src.go i Wi si hlt, fun H => i + 1 ≤ xs.length ∧ ∃ Wi, Wi.H = H ∧ Stp ε W2 Wi ∧ DMut K Wi D (kfill (((xs.take (i + 1)).filter p).map f)), fun H' h' => ⟨_, by omega, rfl, h'⟩, fun v H'' hy => ?_⟩
      obtain ⟨x, W3, rfl, g3', hx, r⟩ := src.yld i Wi v H'' si hlt hy
      have g3 : Stp ε Wi W3 := gi.rf.and g3'
      have hm : x ∈ xs := List.mem_of_getElem? hx
      have tkk : xs.take (i + 1) = xs.take i ++ [x] := by rw [List.take_add_one, hx]; rfl
      refine hg x v W3 _ _ r fun σ2 hp => ⟨hw x σ2 W3 hp, ?_⟩
      have G3 := ((g1.trans g2).trans gi).trans g3
      refine ht x W3 σ2 hm G3 hp W3 g3.rf _ fun W4 g4 => ?_
      have G4 := G3.trans g4
      cases hpx : p x with
      | true =>
        rw [if_pos rfl]
        refine hk x W4 σ2 hm hpx G4 (hP x σ2 W3 W4 hp g4) W4 g4.rf _ fun u W5 g5 eu => ?_
        refine he x W5 σ2 hm hpx (G4.trans g5) (hP x σ2 W4 W5 (hP x σ2 W3 W4 hp g4) g5) W5 g5.rf _ fun w W6 g6 rw' => ?_
        have G6 : Stp ε Wi W6 := ((g3.trans g4).trans g5).trans g6
        obtain ⟨ks, e6, r6⟩ := (dm.s G6 DS).ex
        have b6 := (dm.s G6 DS).b
        have ef : kfill (((xs.take (i + 1)).filter p).map f) = kput (kfill (((xs.take i).filter p).map f)) (f x).1 (f x).2 := by
          rw [tkk, List.filter_append, List.map_append]
          simp only [List.filter_cons, hpx, if_pos, List.filter_nil, List.map_cons, List.map_nil]
          unfold kfill
          rw [List.foldl_append]; rfl
        refine ⟨ks, PyKey.key (f x).1, eu, e6, by rw [KReps.len r6]; exact Evl.sz_lt (by have := ln i; omega), hlt, W6.put D _ b6, rfl, ⟨md_mut (gi.trans G6).md b6 hD, i_put DS G6.i _⟩, ⟨b6, _, upd_same, ?_⟩⟩
        rw [ef]
        exact KReps.put r6 (f x).1 rw'
      | false =>
        rw [if_neg Bool.false_ne_true]
        have ef : kfill (((xs.take (i + 1)).filter p).map f) = kfill (((xs.take i).filter p).map f) := by
          rw [tkk, List.filter_append, List.map_append]
          simp only [List.filter_cons, hpx, List.filter_nil, List.map_nil, List.append_nil, if_neg Bool.false_ne_true]
        exact ⟨hlt, W4, rfl, (gi.trans g3).trans g4, by rw [ef]; exact dm.s (g3.trans g4) DS⟩
    · have e : i = xs.length := by omega
      subst e
      rw [List.take_length] at dm
      exact .inl ⟨src.stop _ Wi si (Nat.le_refl _), k D Wi (g2.trans gi) (by
        cases e : W1.H D with
        | none => rfl
        | some o => exact absurd hD (g2.md.d D (by rw [e]; exact fun z => by cases z))) dm⟩
theorem em_dcN {j : Nat} {xs : List α} {p : α → Bool} {f : α → κ × β} (hi : EvI ε K wi σ W xs) (ht : ∀ x v W', x ∈ xs → Stp ε W W' → rep K W'.B v x → EvT ε tt ((wipe σ [j]).set j (some v)) W' (p x))
    (hk : ∀ x v W', x ∈ xs → p x = true → Stp ε W W' → rep K W'.B v x → EvP ε tk ((wipe σ [j]).set j (some v)) W' (fun u _ => u = kV (PyKey.key (f x).1)))
    (he : ∀ x v W', x ∈ xs → p x = true → Stp ε W W' → rep K W'.B v x → EvR ε K tv ((wipe σ [j]).set j (some v)) W' (f x).2) (hl : xs.length < 100000) : EvM ε K (tDc wi (gName j) tt tk tv [j]) σ W (kfill ((xs.filter p).map f)) :=
  em_dc (P := PN K j) hi gt_name (fun x σ2 W' ⟨v, _, e⟩ => by rw [e]; exact wipe1) (fun x W' σ2 hm g ⟨v, r, e⟩ => by rw [e]; exact ht x v W' hm g r) (fun x W' σ2 hm hp g ⟨v, r, e⟩ => by rw [e]; exact hk x v W' hm hp g r)
    (fun x W' σ2 hm hp g ⟨v, r, e⟩ => by rw [e]; exact he x v W' hm hp g r) (fun x σ2 W' W'' ⟨v, r, e⟩ g => ⟨v, rep_s g r, e⟩) hl
end
section
variable {α γ β κ : Type} [Py α] [Py β] [Py γ] [DecidableEq κ] [PyKey κ] {K : Fg} {W : Wd} {σ : SS} {ε : Ef} {te tk tv : TE} {tt : TT} {wi : TI}
theorem em_dcP {i j : Nat} {xs : List (α × γ)} {p : α × γ → Bool} {f : α × γ → κ × β} (hi : EvI ε K wi σ W xs) (ht : ∀ x v u W', x ∈ xs → Stp ε W W' → rep K W'.B v x.1 → rep K W'.B u x.2 → EvT ε tt (((wipe σ [i, j]).set i (some v)).set j (some u)) W' (p x))
    (hk : ∀ x v u W', x ∈ xs → p x = true → Stp ε W W' → rep K W'.B v x.1 → rep K W'.B u x.2 → EvP ε tk (((wipe σ [i, j]).set i (some v)).set j (some u)) W' (fun u _ => u = kV (PyKey.key (f x).1)))
    (he : ∀ x v u W', x ∈ xs → p x = true → Stp ε W W' → rep K W'.B v x.1 → rep K W'.B u x.2 → EvR ε K tv (((wipe σ [i, j]).set i (some v)).set j (some u)) W' (f x).2) (hl : xs.length < 100000) : EvM ε K (tDc wi (gPair K i j) tt tk tv [i, j]) σ W (kfill ((xs.filter p).map f)) :=
  em_dc (P := PP K i j) hi gt_pair (fun x σ2 W' ⟨v, u, _, _, e⟩ => by rw [e]; exact wipe2) (fun x W' σ2 hm g ⟨v, u, r, r', e⟩ => by rw [e]; exact ht x v u W' hm g r r') (fun x W' σ2 hm hp g ⟨v, u, r, r', e⟩ => by rw [e]; exact hk x v u W' hm hp g r r')
    (fun x W' σ2 hm hp g ⟨v, u, r, r', e⟩ => by rw [e]; exact he x v u W' hm hp g r r') (fun x σ2 W' W'' ⟨v, u, r, r', e⟩ g => ⟨v, u, rep_s g r, rep_s g r', e⟩) hl
end
/-! ### a comprehension over a dict that is locked meanwhile -/
section
variable {κ α : Type} [DecidableEq κ] [PyKey κ] [Py α] {K : Fg} {W : Wd} {σ : SS} {t : TE}
/-- locked, and free again behind it -/
theorem em_lock {d : Addr} {ks : List (Key × V)} {kv : List (κ × α)} (hd : W.H d = some (.dK ks)) (h : ∀ WL, Lk W WL d ks → WL.B d = W.B d → EvM pur K t σ WL kv) : EvM pur K (tLockE t) σ W kv := fun W1 g1' Q k => by
  have g1 := g1'.pure
  have hd1 := g1.h _ _ hd
  have hnt : Nt W.H d := .k hd
  refine ⟨d, _, hd1, trivial, fun od => ?_⟩
  have sub : Ext W1.B (upd W1.H d (.frz od (.dK ks))) := B.Ext.trans W1.sub (B.Ext.lock hd1)
  let WL : Wd := ⟨W1.B, upd W1.H d (.frz od (.dK ks)), sub⟩
  have off : ∀ a, a ≠ d → WL.H a = W1.H a := fun a q => upd_ne q
  refine h WL ⟨g1.b, ⟨od, upd_same⟩, fun a o q e => (off a q).trans (g1.h a o e)⟩ (g1.m d hnt) WL (.start trivial) _ fun p W2 g2' f m => ?_
  have g2 := g2'.pure
  have h2 : W2.H d = some (.frz od (.dK ks)) := g2.h _ _ upd_same
  refine ⟨h2, ?_⟩
  have hB : W2.B d = W1.B d := g2.m d ⟨.frz od (.dK ks), upd_same, fun _ z => by cases z⟩
  have pd : p ≠ d := fun z => by
    have f' : upd W1.H d (.frz od (.dK ks)) p = none := f
    rw [z, upd_same] at f'; cases f'
  have sub3 : Ext W2.B (upd W2.H d (.dK ks)) := fun a o e => by
    by_cases q : a = d
    · subst q
      rw [hB] at e
      rcases W1.sub a o e with h1 | ⟨⟨k', rfl⟩, ob, h1⟩
      · rw [hd1] at h1; cases h1; exact .inl upd_same
      · rw [hd1] at h1; cases h1
    · rw [upd_ne q]; exact W2.sub a o e
  have gr : Grow W1 ⟨W2.B, upd W2.H d (.dK ks), sub3⟩ := .mk g2.b (fun a o e => by
    show upd W2.H d (.dK ks) a = some o
    by_cases q : a = d
    · subst q; rw [hd1] at e; cases e; exact upd_same
    · rw [upd_ne q]; exact g2.h a o ((off a q).trans e)) fun a ha => g2.m a (by
      by_cases q : a = d
      · rw [q]; exact ⟨_, upd_same, fun _ z => by cases z⟩
      · obtain ⟨u, e, hu⟩ := ha
        exact ⟨u, (off a q).trans e, hu⟩)
  obtain ⟨ks2, e2, r2⟩ := m.ex
  exact k p _ (.of gr) ((off p pd).symm.trans f) ⟨m.b, ks2, (upd_ne pd).trans e2, r2⟩
end
end B
/-! B: repr of a list that holds dicts -/
namespace B
open PySem PySem.Spec PyProof.Rows L2
open PySem.W (Tup T3 T4 Datum DatumOrd)
def keyD : Key → PyData
  | .inl i => .int i
  | .inr x => .str x
/-- data; a dict of numbers, by the heap -/
inductive DpD (K : Fg) (H : Hp) : V → PyData → Prop
  | pl {v : V} {d : PyData} : Dp K H v d → d.hasDict = false → DpD K H v d
  | dc {a : Addr} {kv : List (Key × Int)} : Rd H a (.dK (kv.map fun q => (q.1, V.int q.2))) → DpD K H (.ref a) (.dict (kv.map fun q => (keyD q.1, PyData.int q.2)))
inductive DpDs (K : Fg) (H : Hp) : List V → List PyData → Prop
  | nil : DpDs K H [] []
  | cons {v : V} {d : PyData} {vs : List V} {ds : List PyData} : DpD K H v d → DpDs K H vs ds → DpDs K H (v :: vs) (d :: ds)
section
variable {X : Cx} {pins : List (Addr × Obj)} {σ : L2.St} {H : Hp} {s : Shared}
theorem flat_keys {P : Program} {w : World} {h : Heap} {es : List DictEntry} : ∀ {kv : List (Key × Int)} {vs : List (Key × Value)}, KV (kv.map fun q => (q.1, V.int q.2)) vs → Pairs (mixKind P w) es vs → ReadsAll h (es.map (·.key)) ((kv.map fun q => (keyD q.1, PyData.int q.2)).map (·.1)) [] ∧ ReadsAll h (es.map (·.val)) ((kv.map fun q => (keyD q.1, PyData.int q.2)).map (·.2)) [] := by
  intro kv vs hv hp
  induction hp generalizing kv with
  | nil =>
    cases kv with
    | nil => exact ⟨.nil, .nil⟩
    | cons q kv => cases hv
  | @cons e p es vs hk he _ ih =>
    cases kv with
    | nil => cases hv
    | cons q kv =>
      cases hv with
      | cons h1 h2 =>
        obtain ⟨i1, i2⟩ := ih h2
        obtain ⟨e1, e2⟩ := h1
        have e1 : q.1 = p.1 := e1
        obtain ⟨t, e2⟩ : ∃ t, p.2 = .int q.2 t := e2
        have kd : Reads h e.key (keyD q.1) [] := by
          rw [← e1] at hk
          have hk : keyIs q.1 e.key = true := hk
          rcases keyIs_shape hk with ⟨i, u, e3, e4⟩ | ⟨x, u, e3, e4⟩
          · rw [e3, e4]; exact .int i u
          · rw [e3, e4]; exact .str x u
        have vd : Reads h e.val (PyData.int q.2) [] := by rw [he, e2]; exact .int _ _
        exact ⟨.cons (as := []) (bs := []) kd i1, .cons (as := []) (bs := []) vd i2⟩
theorem DpD.reads (I : Inv X pins σ H s) {v : V} {u : Value} {d : PyData} (h : DpD X.K H v d) (r : RelV v u) : ∃ as, Reads s.heap u d as ∧ (d.hasDict = true → sysModules ∉ as) := by
  cases h with
  | pl hd hn =>
    obtain ⟨as, rd⟩ := Dp.reads I _ _ _ hd r
    exact ⟨as, rd, fun z => by rw [hn] at z; cases z⟩
  | @dc a kv e =>
    obtain rfl : u = Value.ref _ := r
    obtain ⟨_, hsys, vs, kvr, o, es, ep, ho, ex, hd, _, pr, _⟩ := dk_rd I.hok e
    obtain ⟨k1, k2⟩ := flat_keys (h := s.heap) kvr pr
    refine ⟨_, Reads.dict ho ex.1 hd k1 k2, fun _ hm => ?_⟩
    have : sysModules = a := by simpa using hm
    rw [← this] at hsys
    simp at hsys
theorem DpD.repr (I : Inv X pins σ H s) {v : V} {u : Value} {d : PyData} (h : DpD X.K H v d) (r : RelV v u) (hs : d.showable = true) (hz : d.shown.length ≤ sizeLine) : ∃ as, Reads s.heap u d as ∧ ∃ bs, ReadAtMost s.heap d.depth bs ∧ ReprK X.prog X.w bs s.heap d.depth u d.shown := by
  obtain ⟨as, rd, hn⟩ := h.reads I r
  exact ⟨as, rd, ReprK.of_reads rd hs hn hz⟩
theorem DpDs.repr (I : Inv X pins σ H s) : ∀ {vs : List V} {us : List Value} {ds : List PyData}, DpDs X.K H vs ds → Vals vs us → PyData.showableAll ds = true → (∀ t ∈ PyData.shownAll ds, t.length ≤ sizeLine) →
    (∃ as, ReadsAll s.heap us ds as) ∧ ∃ bs, ReadAtMost s.heap (PyData.depthAll ds) bs ∧ ReprAllK X.prog X.w bs s.heap (PyData.depthAll ds) us (PyData.shownAll ds)
  | _, _, _, .nil, .nil, _, _ => ⟨⟨_, .nil⟩, [], (fun _ h => nomatch h), by simp only [PyData.shownAll]; exact .nil⟩
  | _, _, _, .cons (d := d) (ds := ds) h hs', .cons r rs, hs, hz => by
    have hs2 : d.showable = true ∧ PyData.showableAll ds = true := by simpa [PyData.showableAll] using hs
    obtain ⟨as, rd, b1, hb1, k1⟩ := h.repr I r hs2.1 (hz _ (by simp only [PyData.shownAll]; exact List.mem_cons_self ..))
    obtain ⟨⟨as2, rds⟩, b2, hb2, k2⟩ := DpDs.repr I hs' rs hs2.2 fun t ht => hz t (by simp only [PyData.shownAll]; exact List.mem_cons_of_mem _ ht)
    refine ⟨⟨_, .cons rd rds⟩, b1 ++ b2, fun b hm => ?_, ?_⟩
    · simp only [PyData.depthAll]
      rcases List.mem_append.mp hm with hm | hm
      · obtain ⟨d', as', r', hd'⟩ := hb1 b hm
        exact ⟨d', as', r', Nat.le_trans hd' (Nat.le_max_left _ _)⟩
      · obtain ⟨d', as', r', hd'⟩ := hb2 b hm
        exact ⟨d', as', r', Nat.le_trans hd' (Nat.le_max_right _ _)⟩
    · simp only [PyData.depthAll, PyData.shownAll]
      exact .cons ((k1.more fun b hb => List.mem_append_left _ hb).level_le (Nat.le_max_left _ _)) (k2.more_le (fun b hb => List.mem_append_right _ hb) (Nat.le_max_right _ _))
end
section
variable {prog : Program} {w : World} {A : Around} {E : Value → Shared → Prop} {s : Shared}
theorem repr_listD {a : Addr} {o : Obj} {vs : List Value} {n : _} {d : List PyData} {az bs : List Addr} {Q : Value → Shared → Prop} (h1 : s.heap.get? a = some o) (h2 : o.cls = .type "list") (h3 : o.data = .seq vs.toArray n) (r : ReadsAll s.heap vs d az) (hb : ReadAtMost s.heap (PyData.depthAll d) bs) (hk : ReprAllK prog w bs s.heap (PyData.depthAll d) vs (PyData.shownAll d))
    (hg : A.guards = some []) (hu : A.units + 60 < cLine) (h40 : PyData.depthAll d ≤ 40) (hz : (listText (PyData.shownAll d)).length ≤ sizeLine)
    (hQ : ∀ h' u tk, (∀ b o, s.heap.get? b = some o → h'.get? b = some o) → Q (.str (listText (PyData.shownAll d)) u) { s with heap := h', toks := tk }) : wpAny (model prog w) A (call (.builtin "repr") [.ref a]) Q E s := by
  have r0 : Reads s.heap (.ref a) (.list d) (a :: az) := .list h1 h2 h3 (by simpa using r)
  have hna : a ∉ bs := not_mem_of_deeper r0 (by simp only [PyData.depth]; omega) hb
  have hTy : s.TypeIs (.ref a) "list" := ⟨o, h1, h2⟩
  refine Calls.call_function_entry F.kind_repr F.plain_repr F.entry_repr (F.args_repr1 _) ?_
  unfold Builtin.«repr»
  refine wpAny_bind (m := oneArg "repr" _) (wpAny_pure ?_)
  refine wpAny_bind (wpAny_cRoomFor (by show A.units + 1 < _; omega) ?_)
  refine wpAny_bind (wpAny_specialOf (name := Str.ofString "__repr__") hTy F.slot_list_repr.lookup ?_)
  have fin : ∀ h' u tk, (∀ b o, s.heap.get? b = some o → h'.get? b = some o) → wpAny (model prog w) A.in1 (isInstance (.str (listText (PyData.shownAll d)) u) (.type "str") >>= fun b => if b = true then ret (.str (listText (PyData.shownAll d)) u) else rule "repr.not-str" >>= fun _ => typeNameOf (.str (listText (PyData.shownAll d)) u) >>= fun nm => raiseError "TypeError" s!"__repr__ returned non-string (type {nm})")
      (fun fin s' => ∃ v, fin = .done (.ret v) ∧ Q v s') E { s with heap := h', toks := tk } := fun h' u tk hk =>
    wpAny_bind (wpAny_isInstance (T := "str") (b := true) rfl isSubtype_str_str (wpAny_pure ⟨_, rfl, hQ h' u tk hk⟩))
  refine wpAny_bind (m := callSpecialIfBound? (.ref a) (Str.ofString "__repr__")) (wpAny_callSpecialIfBound?_slot (name := Str.ofString "__repr__") hTy F.slot_list_repr ?_)
  cases vs with
  | nil =>
    cases r
    exact call_list_repr_empty hTy h1 h3 (fin s.heap _ _ fun _ _ e => e)
  | cons x l =>
    exact call_list_reprK h1 h2 h3 hna (by simpa using hk.length_eq) (fun i y e => hk.item i y (by simpa using e)) (show A.in1.guards = some [] from hg) (fun b _ => Clear.nil b) (by show A.units + 1 + _ < _; omega) (fun _ _ e => e) (fun h' u tk hk' => fin h' u tk hk') hz
end
def rReprD (K : Fg) : List V → Hp → VK → Prop := fun vs H Q => ∃ (a : Addr) (xs : List V) (d : List PyData), vs = [.ref a] ∧ SqL K H a xs ∧ DpDs K H xs d ∧ PyData.showableAll d = true ∧ PyData.depthAll d ≤ 40 ∧ (listText (PyData.shownAll d)).length ≤ sizeLine ∧ Q (.str (listText (PyData.shownAll d))) H
theorem cr_reprD {X : Cx} (hg : X.A.guards = some []) (hu : X.A.units + 64 < cLine) : CallR X (.builtin "repr") (rReprD X.K) := by
  intro pins s σ H xs us Q I r h
  obtain ⟨a, ys, d, rfl, hl, hd, h1, h3, h4, q⟩ := h
  obtain ⟨u, rfl, ru⟩ := vals1 r
  obtain rfl : u = Value.ref a := ru
  obtain ⟨its, rv, ⟨o, n, ho, hc, _, hdat⟩, _⟩ := I.list hl
  obtain ⟨⟨az, ra⟩, bs, hb, hk⟩ := hd.repr I rv h1 fun t ht => Nat.le_trans (listText_mem_le ht) h4
  exact repr_listD ho hc hdat ra hb hk hg (by omega) h3 h4 fun h' u tk hk => ⟨.str _, H, I.kept hk, ⟨_, rfl⟩, q⟩
mutual
theorem dp_ext {K : Fg} {H H' : Hp} (e : Ext H H') : ∀ (d : PyData) (v : V), Dp K H v d → Dp K H' v d
  | .none, _, h => by cases h; exact .non
  | .bool b, _, h => by cases h; exact .bl b
  | .int i, _, h => by cases h; exact .int i
  | .str x, _, h => by cases h; exact .str x
  | .list ds, _, h => by
    cases h with
    | lst hs ha => exact .lst (e.l hs) (dps_ext e ds _ ha)
  | .tuple ds, _, h => by
    cases h with
    | tup hs ha => exact .tup (e.t hs) (dps_ext e ds _ ha)
  | .dict _, _, h => by cases h
theorem dps_ext {K : Fg} {H H' : Hp} (e : Ext H H') : ∀ (ds : List PyData) (vs : List V), DpAll K H vs ds → DpAll K H' vs ds
  | [], _, h => by cases h; exact .nil
  | d :: ds, _, h => by
    cases h with
    | cons h1 h2 => exact .cons (dp_ext e d _ h1) (dps_ext e ds _ h2)
end
def rReprV (K : Fg) : List V → Hp → VK → Prop := fun vs H Q => ∃ (v : V) (d : PyData), vs = [v] ∧ DpD K H v d ∧ d.showable = true ∧ d.depth ≤ 40 ∧ d.shown.length ≤ sizeLine ∧ Q (.str d.shown) H
theorem cr_reprV {X : Cx} (hg : X.A.guards = some []) (hu : X.A.units + 64 < cLine) : CallR X (.builtin "repr") (rReprV X.K) := by
  intro pins s σ H xs us Q I r h
  obtain ⟨v, d, rfl, hd, h1, h3, h4, q⟩ := h
  obtain ⟨u, rfl, ru⟩ := vals1 r
  obtain ⟨as, rd, hn⟩ := hd.reads I ru
  have fin : ∀ tk u, EP X pins σ Q (.str d.shown u) { s with toks := tk } := fun tk u => ⟨.str _, H, I.kept (t' := tk) fun _ _ z => z, ⟨_, rfl⟩, q⟩
  cases rd with
  | none => exact P.repr_of_none (fin _ _)
  | bool b => exact P.repr_of_bool (fin _ _)
  | int i t => exact P.repr_of_int (by simpa [PyData.showable] using h1) (fin _ _)
  | str x t => exact P.repr_of_str (fin _ _) h4
  | list a1 a2 a3 a4 => exact repr_of_reads' (.list a1 a2 a3 a4) h1 hn hg (by omega) (fun _ _ e => e) (fun h' u tk hk => ⟨.str _, H, I.kept hk, ⟨_, rfl⟩, q⟩) h4
  | tuple a1 a2 a3 a4 => exact repr_of_reads' (.tuple a1 a2 a3 a4) h1 hn hg (by omega) (fun _ _ e => e) (fun h' u tk hk => ⟨.str _, H, I.kept hk, ⟨_, rfl⟩, q⟩) h4
  | dict a1 a2 a3 a4 a5 => exact repr_of_reads' (.dict a1 a2 a3 a4 a5) h1 hn hg (by omega) (fun _ _ e => e) (fun h' u tk hk => ⟨.str _, H, I.kept hk, ⟨_, rfl⟩, q⟩) h4
/-- data of which some are new dicts -/
inductive DpW (K : Fg) (W : Wd) : V → PyData → Prop
  | pl {v : V} {d : PyData} : Dp K W.B v d → d.hasDict = false → DpW K W v d
  | st {c : Addr} {kv : List (Str × Int)} : DMut K W c kv → DpW K W (.ref c) (.dict (kv.map fun q => (PyData.str q.1, PyData.int q.2)))
  | it {c : Addr} {kv : List (Int × Int)} : DMut K W c kv → DpW K W (.ref c) (.dict (kv.map fun q => (PyData.int q.1, PyData.int q.2)))
section
variable {K : Fg} {W W' : Wd} {σ : SS} {te : TE} {ta : TA}
theorem kreps_flat {κ : Type} [DecidableEq κ] [PyKey κ] {B : Hp} : ∀ {ks : List (Key × V)} {kv : List (κ × Int)}, KReps K B ks kv → ks = kv.map fun q => (PyKey.key q.1, V.int q.2)
  | [], [], .nil => rfl
  | p :: ks, q :: kv, .cons h r => by
    obtain ⟨e1, e2⟩ := h
    have e2 : p.2 = V.int q.2 := e2
    rw [List.map_cons, ← kreps_flat r, ← e1, ← e2]
theorem DpW.gr {v : V} {d : PyData} (h : DpW K W v d) (g : Grow W W') : DpW K W' v d := by
  cases h with
  | pl h n => exact .pl (dp_ext (exExt g.b) _ _ h) n
  | st m => exact .st (m.gr g)
  | it m => exact .it (m.gr g)
theorem DpW.d {v : V} {d : PyData} (h : DpW K W v d) : DpD K W.H v d := by
  cases h with
  | pl h n => exact .pl (dp_ext W.sub _ _ h) n
  | @st c kv m =>
    obtain ⟨ks, e, r⟩ := m.ex
    rw [kreps_flat r] at e
    have := DpD.dc (K := K) (H := W.H) (a := c) (kv := kv.map fun q => ((Sum.inr q.1 : Key), q.2)) (.inl (by rw [e, List.map_map]; rfl))
    rw [List.map_map] at this
    exact this
  | @it c kv m =>
    obtain ⟨ks, e, r⟩ := m.ex
    rw [kreps_flat r] at e
    have := DpD.dc (K := K) (H := W.H) (a := c) (kv := kv.map fun q => ((Sum.inl q.1 : Key), q.2)) (.inl (by rw [e, List.map_map]; rfl))
    rw [List.map_map] at this
    exact this
/-- a row of such data is made -/
def EvDs (K : Fg) (ta : TA) (σ : SS) (W : Wd) (ds : List PyData) : Prop := ∀ W1, Stp pur W W1 → ∀ Q : List V → Hp → Prop, (∀ us W2, Stp pur W1 W2 → (∀ W3, Grow W2 W3 → DpDs K W3.H us ds) → us.length = ds.length → Q us W2.H) → ta σ W1.H Q
theorem eds_nil : EvDs K tNil σ W [] := fun W1 g1 Q k => k [] W1 g1.rf (fun _ _ => .nil) rfl
theorem eds_cons {d : PyData} {ds : List PyData} (h : EvP pur te σ W (fun v W' => DpW K W' v d)) (hr : EvDs K ta σ W ds) : EvDs K (tCons te ta) σ W (d :: ds) := fun W1 g1 Q k =>
  h W1 g1 _ fun v W2 g2 p => hr W2 (g1.trans g2) _ fun us W3 g3 ps l => k (v :: us) W3 (g2.trans g3) (fun W4 g4 => .cons (p.gr (g3.pure.trans g4)).d (ps W4 g4)) (by rw [List.length_cons, l, List.length_cons])
theorem ed_pl {α : Type} [DecidableEq α] [Datum α] [Py α] [PyD α] {x : α} (h : EvR pur K te σ W x) (hn : (Datum.toD x).hasDict = false) : EvP pur te σ W (fun v W' => DpW K W' v (Datum.toD x)) := fun W1 g1 Q k => h W1 g1 Q fun v W2 g2 r => k v W2 g2 (.pl (PyD.dp r) hn)
theorem ed_st {kv : List (Str × Int)} (h : EvM pur K te σ W kv) : EvP pur te σ W (fun v W' => DpW K W' v (.dict (kv.map fun q => (PyData.str q.1, PyData.int q.2)))) := fun W1 g1 Q k => h W1 g1 Q fun p W2 g2 _ m => k _ W2 g2 (.st m)
theorem ed_it {kv : List (Int × Int)} (h : EvM pur K te σ W kv) : EvP pur te σ W (fun v W' => DpW K W' v (.dict (kv.map fun q => (PyData.int q.1, PyData.int q.2)))) := fun W1 g1 Q k => h W1 g1 Q fun p W2 g2 _ m => k _ W2 g2 (.it m)
/-- repr([..]), dicts in it -/
theorem ev_reprD {ds : List PyData} (h : EvDs K ta σ W ds) (hs : PyData.showableAll ds = true) (hd : PyData.depthAll ds ≤ 40) (hl : (listText (PyData.shownAll ds)).length ≤ 100000) (hn : ds.length ≤ 100000) : EvR pur K (tCB (rReprD K) (tCons (tLst ta) tNil)) σ W (listText (PyData.shownAll ds)) := fun W1 g1 Q k => h W1 g1 _ fun us W2 g2 ps l =>
  ⟨by rw [l]; exact Evl.sz_of hn, fun p hp => by
    let W3 := W2.add p (.lst us)
    have g3 : Grow W2 W3 := W2.grow_add hp
    exact ⟨p, us, ds, rfl, SqL.of upd_same, ps W3 g3, hs, hd, Evl.sz_of hl, k _ W3 (g2.trans (.of g3)) rfl⟩⟩
end
end B
/-! B: classes of refusals, told by the top's names -/
namespace B
open PySem PySem.Spec PyProof.Rows L2
def cErr (K : Fg) (x : Str) : Addr := match PySem.W.nsIn K mainGlobals x with
  | some (some (.ref C)) => C
  | _ => 0
theorem cErr_of {K : Fg} {x : Str} {C : Addr} (h : PySem.W.nsIn K mainGlobals x = some (some (.ref C))) : cErr K x = C := by
  unfold cErr
  rw [h]
/-- str(n) -/
abbrev rStrI : List V → Hp → VK → Prop := fun xs H Q => ∃ i : Int, xs = [.int i] ∧ i.natAbs.log2 < 1920 ∧ Q (.str (toString i)) H
/-- a call in a def that lets out what it gets -/
theorem passE {X : Cx} {E : XK} (hs : X.stack = X.env :: X.outer) (hf : X.env.frame = some X.env.locals) (hex : X.ex = []) {E₁ : Value → Shared → Prop}
    (hx : X.xe = fun e s' => wpAny (model X.prog X.w) X.A (leaving X.env e) (fun _ s'' => L2.CX X.prog X.w X.outer X.H_0 X.s_0 E e s'') E₁ s') : Passes (L2.CX X.prog X.w) X E :=
  passes_call (takes_of hs hf hex hx) fun _ _ _ _ h => h
end B
/-! BE: errors with fields of their own: made, caught, kept, asked -/
namespace BE
open PySem PySem.Spec PySem.Calls PyProof.Rows
section
open PySem.W
variable {prog : Program} {w : World} {A : Around} {E : Value → Shared → Prop} {s : Shared} {K : Frag} {x D : Addr} {ox : Obj} {od : Option Obj}
theorem find_dataO {C : Addr} {name : Str} {a g : Value} (hc : (clsIn K C).isSome = true) (ha : findIn K (.ref C) name = some (some a)) (hg : specialIn K a "__get__" = some (some g)) (ht : takesIn K a = some true) : findObj K C od name = some (.bind g a) := by
  cases od with
  | none => exact findObj_dataN hc ha hg ht
  | some o => exact findObj_data hc ha hg ht
theorem classE_at {Q : Option Value → Shared → Prop} (C : L2.ExcC K D) (X : K.In s.heap) (I : InstAt s.heap x ox D od) (h : Q (some (.ref D)) { s with toks := s.toks + 1 }) : wpAny (model prog w) A (getAttr? (.ref x) "__class__") Q E s := by
  have hf : findObj K D od "__class__" = some (.bind (.builtin "getset_descriptor.__get__") (.builtin "object.__class__")) := find_dataO (by obtain ⟨cd, hc, _⟩ := any_some C.hd; rw [hc]; rfl) C.ha C.hn C.ht
  obtain ⟨hp, g, d, t, os⟩ := s
  have k0 := I.type (M := model prog w)
  have k1 := looks_findIn (M := model prog w) X C.hg
  have k2 := looks_findIn (M := model prog w) X C.hk
  have k3 := looks_find (M := model prog w) X I hf
  have sb : Looks (model prog w) hp (isInstance (.ref x) (.type "BaseException")) true := k0.andThen (looks_subIn X C.hs)
  have n0 : (false && onTheHeap (Value.builtin "BaseException.__getattribute__")) = false := rfl
  have n2 : (Value.builtin "BaseException.__getattribute__" == Value.builtin "object.__getattribute__") = false := by decide +kernel
  have n1 : (onTheHeap (Value.ref D) && Value.builtin "BaseException.__getattribute__" == Value.builtin "object.__getattribute__") = false := by rw [n2]; rfl
  unfold getAttr? getAttrBy? getAttrBy
  refine wpAny_bind (wpAny_mkText (wpAny_bind (wpAny_attempt (wpAny_holding (wpAny_bind (k0.at (wpAny_bind (k1.at ?_))))))))
  show wpAny _ _ (if (onTheHeap (Value.ref D) && Value.builtin "BaseException.__getattribute__" == Value.builtin "object.__getattribute__") = true then _ else _) _ _ _
  rw [n1, if_neg Bool.false_ne_true]
  unfold getAttrByItsOwn hookBefore
  refine wpAny_bind ?_
  rw [if_pos (show onTheHeap (Value.ref D) = true from rfl)]
  refine k2.at ?_
  refine wpAny_bind (wpAny_attempt (wpAny_holding ?_))
  unfold callGetattribute
  rw [n0, if_neg Bool.false_ne_true]
  unfold boundAndCalled
  rw [PySem.F.excAttr_ValueError.ga.bind (.ref x)]
  refine wpAny_bind (wpAny_pure ?_)
  show wpAny _ _ (call (.builtin "BaseException.__getattribute__") [.ref x, .str "__class__" t]) _ _ _
  refine wpAny_call (codeAny_call_builtin PySem.F.excAttr_ValueError.ga.plain PySem.F.entry_bexc_ga ?_)
  refine @check_slot (model prog w) _ _ ⟨hp, g, d, t + 1, os⟩ "BaseException.__getattribute__" "BaseException" "__getattribute__" (.ref x) [.str "__class__" t] [] _ (by decide +kernel) (by decide +kernel) sb (PySem.F.args_bexc_ga (.ref x) (.str "__class__" t)) ?_
  unfold Builtin.«object.__getattribute__»
  refine wpAny_bind (wpAny_of_eq (a := ((Value.ref x : Value), [Value.str "__class__" t])) (by first | rfl | (simp only [slotArgs]; rfl)) ?_)
  refine wpAny_bind (wpAny_pure (wpAny_bind (k0.at (wpAny_bind (k3.at ?_)))))
  show wpAny _ _ (holding [Value.builtin "object.__class__"] (call (.builtin "getset_descriptor.__get__") [.builtin "object.__class__", .ref x, .ref D]) >>= ret) _ _ _
  refine wpAny_bind (wpAny_holding (wpAny_call (class_get (s := ⟨hp, g, d, t + 1, os⟩) (ox := ox) (od := od) X I C.hm ?_)))
  refine wpAny_pure ?_
  show wpAny _ _ (handedOut (.ref D)) _ _ _
  rw [handedOut_of (v := .ref D) rfl]
  first
    | exact wpAny_pure (wpAny_pure h)
    | exact wpAny_pure h
    | exact wpAny_pure (wpAny_bind (wpAny_pure (wpAny_pure h)))
theorem kit_at (C : L2.ExcC K D) : KitX K (.ref x) (.ref D) (fun h => InstAt h x ox D od) where
  ty := fun _ _ _ I => I.type
  it := fun _ _ X _ => by
    obtain ⟨cd, hc, _⟩ := any_some C.hd
    unfold clsIn at hc
    split at hc
    · rename_i e
      exact fun A' Q' E' s' k q => wpAny_bind (m := loadHead D) (wpAny_loadPart (k _ _ (X _ _ e)) (wpAny_pure q))
    · cases hc
  ne := (handS_kitx_exc (x := x) (ox := ox) C.hg C.hk C.hs C.hd C.ha C.hn C.ht C.hm).ne
  ca := fun X I k => classE_at C X I k
end
open L2
/-- isinstance(e, c), e an error that was kept, with fields or without -/
def rIsF (K : PySem.W.Frag) : List V → Hp → VK → Prop := fun xs H Q => ∃ (a D : Addr) (d : Option Addr) (c : V) (cv : Value) (b : Bool), xs = [.ref a, c] ∧ H a = some (BX.ExK (.ref D) d a) ∧ (∀ dd, d = some dd → ∃ fs, H dd = some (.xd fs)) ∧ ExcC K D ∧ (∀ u, RelV c u → u = cv) ∧ PySem.W.kitOne K (.ref D) cv = some b ∧ Q (.bl b) H
theorem call_isF {X : Cx} : CallR X (.builtin "isinstance") (rIsF X.K) := by
  intro pins s σ H xs us Q I r h
  obtain ⟨a, D, d, c, cv, b, rfl, ha, hd, C, hcv, e, q⟩ := h
  cases r with
  | cons rx rr =>
    cases rr with
    | cons rt rr =>
      cases rr
      cases rx
      have ec := hcv _ rt
      subst ec
      obtain ⟨oe, vs, hget, hz, hv⟩ := (I.hok a _ ha).1
      obtain ⟨od, J⟩ : ∃ od, PySem.W.InstAt s.heap a oe D od := by
        obtain ⟨oc, od, oda, osl⟩ := oe
        obtain ⟨h1, h2⟩ := hz
        dsimp only at h1 h2 hv
        subst h1 h2 hv
        cases od with
        | none => exact ⟨none, hget, rfl, rfl, trivial⟩
        | some dd =>
          obtain ⟨fs, hfs⟩ := hd dd rfl
          have hx : ObjOk X.prog X.w H s.heap dd (.xd fs) := I.hok dd _ hfs
          obtain ⟨mA, hns, _⟩ := hx
          obtain ⟨o2, _, _, ho, _⟩ := hns
          exact ⟨some o2, hget, rfl, rfl, ho⟩
      exact PySem.W.kia_one (kit_at C) I.kIn J e (fun z => nomatch z) fun tk => ⟨.bl b, H, I.kept (t' := tk) fun _ _ z => z, rfl, q⟩
/-- what the written part says of a class with its own __init__ -/
def oexIn (K : PySem.W.Frag) (C : Addr) : Bool := match K.lookup C with
  | some ⟨.type "type", _, .cls cd, sl⟩ => (match cd.mro, sl.toList with
    | .ref C' :: bm, [_, _, _, _, some (.builtin n), _] => C' == C && n == "ValueError.__new__" && !cd.hasDel && cd.hasDict && PySem.HandSPX.refsVE bm
    | _, _ => false)
  | _ => false
theorem oex_mk {K : PySem.W.Frag} {C : Addr} (q : oexIn K C = true) (sa : PySem.W.findIn K (.ref C) "__setattr__" = some (some (.builtin "object.__setattr__"))) (ex : PySem.W.subIn K (.ref C) (.type "BaseException") = some true) (ty : PySem.W.typeIn K (.ref C) = some (.type "type")) (kp : PySem.W.keepIn K (.ref C) = true) : OexC K C := by
  refine ⟨?_, sa, ex, ty, kp⟩
  unfold oexIn at q
  split at q
  · rename_i dd cd sl ho
    split at q
    · rename_i C' bm k0 k1 k2 k3 n k5 hm hs
      simp only [Bool.and_eq_true, beq_iff_eq, Bool.not_eq_true'] at q
      obtain ⟨⟨⟨⟨rfl, rfl⟩, hdel⟩, hdct⟩, ht⟩ := q
      obtain ⟨nm, bs, mro, ns, qn, hd, sn, sub, ab, col, del⟩ := cd
      dsimp only at hm hdel hdct
      subst hm hdel hdct
      obtain ⟨l⟩ := sl
      simp only at hs
      subst hs
      exact ⟨nm, qn, ns, bs, bm, sn, sub, ab, col, dd, k0, k1, k2, k3, k5, ho, ht⟩
    · cases q
  · cases q
/-- raise C(e, ..) out of a def, C's own __init__ keeping sp -/
abbrev tRaiseI (C : Addr) (sp : Sp) (ta : TA) (E : XK) : TS := fun _ σ H => tMkO C sp [] ta σ H E
theorem ps_raiseI {X : Cx} {CX : CXT} {E : XK} {C fI : Addr} {k : Nat} {fd : FuncData} {ps : List Str} {sp : Sp} {x : Str} {e : Expr} {es : List Expr} {ta : TA} {p pos pos2 : Pos} {E₁ : Value → Shared → Prop} (T : OexC X.K C) (iC : PySem.W.findIn X.K (.ref C) "__init__" = some (some (.ref fI))) (tI : PySem.W.typeIn X.K (.ref fI) = some (.type "function"))
    (F1 : FnOk X.prog X.w X.K X.mg X.base CX k fI fd ps sp) (hp : Passes CX X (fun _ _ _ => False)) (hr : Room (k + 1) X.A) (hb : Binds X.K fd ps []) (hg : Gl X x) (hm : X.mg x = some (.ref C)) (ha : PA X (e :: es) ta) (hc : X.calm = true) (hs : X.stack = X.env :: X.outer) (hf : X.env.frame = some X.env.locals) (hex : X.ex = [])
    (hx : X.xe = fun e s' => wpAny (model X.prog X.w) X.A (leaving X.env e) (fun _ s'' => L2.CX X.prog X.w X.outer X.H_0 X.s_0 E e s'') E₁ s') (hdb : (x == ("__debug__" : Str)) = false := by decide)
    (he : starEach (e :: es) X.env = (false, eval e X.env) :: starEach es X.env := by rfl) (hpl : (backTo pos (starEach es X.env)).any (·.1) = false := by rfl) :
    PS X (.Raise (some (.Call (.Name x p) (e :: es) [] pos)) none pos2) (tRaiseI C sp ta E) :=
  ps_raise hc (takes_of hs hf hex hx) (pmk_oex (dvs := []) T iC tI F1 hr hb .nil hp hg hm ha hdb he hpl)
end BE
namespace B
open PySem L2
/-- s.upper() -/
abbrev rUpper : V → List V → Hp → VK → Prop := fun x xs H Q => ∃ a, x = .str a ∧ xs = [] ∧ a.length ≤ 5592405 ∧ Q (.str (Txt.upper a)) H
end B
/-! B: == and != of an own instance and a thing of any kind -/
namespace B
open PySem L2 PySem.Spec PyProof.Rows
section
variable {prog : Program} {w : World} {A : Around} {E : Value → Shared → Prop} {s : Shared} {K : Fg} {x C L f : Addr} {y : Value} {h₀ : Heap} {m : Str → Option Value} {ox : Obj} {od : Option Obj}
theorem ne_bodyA {Q : PySem.Fin → Shared → Prop} (X : K.In s.heap) (I : PySem.W.InstAt s.heap x ox C od) (hs : PySem.W.findIn K (.ref C) "__eq__" = some (some (.ref f))) (hf : PySem.W.isFn K (.ref f) = true) (hu : A.units < cLine)
    (h : wpAny (model prog w) A (call (.ref f) [.ref x, y]) (fun v s' => ∃ b, v = .bool b ∧ Q (.done (.ret (.bool (!b)))) s') E s) : wpAny (model prog w) A (Builtin.«object.__ne__» ⟨[.ref x, y], []⟩) Q E s := by
  unfold Builtin.«object.__ne__»
  repeat (first
    | with_reducible refine wpAny_cRoomFor hu ?_
    | (refine wpAny_bind (m := callSpecialIfBound? (.ref x) (Str.ofString "__eq__") [y]) (PySem.W.ifBound_K X I hs hf (wpAny_mono h (fun v s' hv => ?_) fun _ _ e => e)))
    | wp_step)
  obtain ⟨b, rfl, q⟩ := hv
  repeat (first | exact q | exact wpAny_pure q | exact wpAny_truthy_bool q | (refine wpAny_bind (m := truthy (.bool _)) (wpAny_truthy_bool ?_)) | wp_step)
end
section
variable {X : Cx} {CX : CXT} {k : Nat} {f C : Addr} {fd : FuncData} {ps : List Str} {sp : Sp} {E : XK}
/-- x == y, x an instance of the class at C, whose own __eq__ keeps the promise sp; y of any kind -/
def rInsEqA (K : Fg) (C : Addr) (sp : Sp) (E : XK) : R2 := fun x y H Q => ∃ a dx fs t, x = .ref a ∧ H a = some (.ins C dx fs) ∧ TyX K H y t ∧ PySem.W.notFirst K C t = true ∧ sp [x, y] H Q E
theorem op_insEqA (F : FnOk X.prog X.w X.K X.mg X.base CX k f fd ps sp) (hr : Room k X.A) (hm : Meth X.K C "__eq__" f) (hb : Binds X.K fd ps []) (hx : Passes CX X E) : OpR X (compareOp .Eq) (rInsEqA X.K C sp E) := by
  intro pins s σ H x y v u Q I rx ry h
  obtain ⟨a, dx, fs, t, rfl, ha, ty, hn, q⟩ := h
  cases (show v = Value.ref a from rx)
  obtain ⟨mA, J, _⟩ := ins_get I.hok ha
  obtain ⟨od, J, _⟩ := J.look
  obtain ⟨P, kx, hp, _⟩ := kit_of I ry ty
  obtain ⟨m, hF⟩ := I.fr
  show wpAny (model X.prog X.w) X.A (richCompare .Eq (.ref a) u) (EP X pins σ Q) X.xe s
  refine PySem.W.cmp_K (op := .Eq) (tb := t) hr.units0 hF I.ok.mod.kin J (kx.ty _ _ I.kIn hp) hn hm.at_ hm.fn ?_
  refine wpAny_mono (run_fn (us := [.ref a, u]) (vs := [.ref a, y]) (dvs := []) F hr hb .nil hx I (.cons rfl (.cons ry .nil)) q) (fun w s' z => ?_) fun _ _ x => x
  obtain ⟨z', H', I', rz, qz⟩ := z
  exact SlX.cmpback rz ⟨z', H', I', rz, qz⟩
/-- x != y -/
def rInsNeA (K : Fg) (C : Addr) (sp : Sp) (E : XK) : R2 := fun x y H Q => ∃ a dx fs t, x = .ref a ∧ H a = some (.ins C dx fs) ∧ TyX K H y t ∧ PySem.W.notFirst K C t = true ∧ sp [x, y] H (fun v H' => ∃ r, v = .bl r ∧ Q (.bl (!r)) H') E
theorem op_insNeA (F : FnOk X.prog X.w X.K X.mg X.base CX k f fd ps sp) (hr : Room (k + 1) X.A) (hm : Meth X.K C "__eq__" f) (hn : PySem.W.findIn X.K (.ref C) "__ne__" = some (some (.builtin "object.__ne__")))
    (ho : PySem.W.mroIn X.K C (.type "object") = some true) (hb : Binds X.K fd ps []) (hx : Passes CX X E) : OpR X (compareOp .NotEq) (rInsNeA X.K C sp E) := by
  intro pins s σ H x y v u Q I rx ry h
  obtain ⟨a, dx, fs, t, rfl, ha, ty, hnf, q⟩ := h
  cases (show v = Value.ref a from rx)
  obtain ⟨mA, J, _⟩ := ins_get I.hok ha
  obtain ⟨od, J, _⟩ := J.look
  obtain ⟨P, kx, hp, _⟩ := kit_of I ry ty
  obtain ⟨m, hF⟩ := I.fr
  have XK := I.kIn
  show wpAny (model X.prog X.w) X.A (richCompare .NotEq (.ref a) u) (EP X pins σ Q) X.xe s
  have own : wpAny (model X.prog X.w) X.A.in1 (call (.ref f) [.ref a, u]) (fun v s' => ∃ r, v = .bool r ∧ EP X pins σ Q (.bool (!r)) s') X.xe s := by
    have hl := F.len _ _ _ _ q
    have r2 : Vals [V.ref a, y] [Value.ref a, u] := .cons rfl (.cons ry .nil)
    refine wpAny_call (codeAny_mono (F.run X.A.in1 X.stack s H ⟨[.ref a, u], []⟩ [.ref a, u] [.ref a, y] _ E hr.in1 I.env0.in1 (by
      have := hb s [.ref a, u] I.kIn (by simpa using hl)
      simpa using this) r2 q) fun r s' hq => ?_)
    cases r with
    | error e => exact hx pins σ H s e s' I hq
    | ok fl =>
      cases fl with
      | ret w =>
        obtain ⟨z, H', I', rz, r, rfl, q'⟩ := I.after hq
        cases rz
        exact ⟨r, rfl, .bl (!r), H', I', rfl, q'⟩
      | next => exact False.elim hq
      | brk => exact False.elim hq
      | cont => exact False.elim hq
  have one : wpAny (model X.prog X.w) X.A (tryCompare (.ref a) "__ne__" u) (fun r s' => ∃ v, r = some v ∧ EP X pins σ Q v s') X.xe s := by
    unfold tryCompare
    refine wpAny_bind (ne_bound XK J hn (wpAny_call (codeAny_call_builtin PySem.F.cmp_object.ne.plain PySem.F.cmpEntry_ne (@PySem.W.check_slot (model X.prog X.w) _ _ s "object.__ne__" "object" "__ne__" (.ref a) [u] [] _ PySem.F.cmpKind_ne PySem.F.cmpSplit_ne
      (J.type.andThen (PySem.W.looks_mroIn XK ho)) (PySem.F.cmpArgs_ne _ _) ?_))))
    refine ne_bodyA (s := s) XK J hm.at_ hm.fn hr.in1.units0 (wpAny_mono own (fun v s' z => ?_) fun _ _ e => e)
    obtain ⟨r, rfl, z⟩ := z
    refine ⟨r, rfl, ?_⟩
    exact wpAny_pure ⟨_, rfl, z⟩
  unfold richCompare
  simp only [oneThing_ref]
  refine wpAny_holding (wpAny_bind (wpAny_cRoomFor hr.units0 ?_))
  refine wpAny_bind (J.type.here (wpAny_bind ((kx.ty _ _ I.kIn hp).here ?_)))
  split
  · rename_i q
    have e : PySem.W.subIn X.K t (.ref C) = some false := by
      rcases Bool.or_eq_true_iff.mp hnf with e | e
      · rw [beq_iff_eq.mp e] at q; simp at q
      · exact beq_iff_eq.mp e
    refine wpAny_bind ((PySem.W.looks_subIn XK e).here ?_)
    simp only [Bool.false_eq_true, if_false]
    refine wpAny_bind (wpAny_mono one (fun r s' z => ?_) fun _ _ e => e)
    obtain ⟨v, rfl, hq⟩ := z
    exact wpAny_pure hq
  · refine wpAny_bind (wpAny_pure ?_)
    simp only [Bool.false_eq_true, if_false]
    refine wpAny_bind (wpAny_mono one (fun r s' z => ?_) fun _ _ e => e)
    obtain ⟨v, rfl, hq⟩ := z
    exact wpAny_pure hq
end
end B
/-! B: data of any kind -/
namespace B
open PySem PySem.Spec PyProof.Rows L2
open PySem.W (Tup T3 T4 Datum DatumOrd)
mutual
theorem nd_plain : ∀ d : PyData, d.plain = true → d.hasDict = false
  | .none, _ => rfl
  | .bool _, _ => rfl
  | .int _, _ => rfl
  | .str _, _ => rfl
  | .list xs, h => by simp only [PyData.plain] at h; simp only [PyData.hasDict]; exact nd_plains xs h
  | .tuple xs, h => by simp only [PyData.plain] at h; simp only [PyData.hasDict]; exact nd_plains xs h
  | .dict _, h => by simp [PyData.plain] at h
theorem nd_plains : ∀ ds : List PyData, PyData.plainAll ds = true → PyData.hasDictAll ds = false
  | [], _ => by simp [PyData.hasDictAll]
  | d :: ds, h => by
    simp only [PyData.plainAll, Bool.and_eq_true] at h
    simp only [PyData.hasDictAll, nd_plain d h.1, nd_plains ds h.2, Bool.or_self]
end
theorem dpd_ext {K : Fg} {H H' : Hp} (e : Ext H H') {d : PyData} {v : V} (h : DpD K H v d) : DpD K H' v d := by
  cases h with
  | pl h n => exact .pl (dp_ext e _ _ h) n
  | dc h => exact .dc (e.rd h)
instance : Py PyData := ⟨fun K H v d => DpD K H v d, fun e h => dpd_ext e h⟩
section
variable {α : Type} [DecidableEq α] [Datum α] [Py α] [PyD α] {K : Fg} {W : Wd} {σ : SS} {ε : Ef} {te : TE}
theorem rep_dt {H : Hp} {v : V} {x : α} (h : rep K H v x) : rep K H v (Datum.toD x) := .pl (PyD.dp h) (nd_plain _ (Datum.plain x))
theorem ev_dt {x : α} (h : EvR ε K te σ W x) : EvR ε K te σ W (Datum.toD x) := fun W1 g1 Q k => h W1 g1 Q fun v W2 g2 r => k v W2 g2 (rep_dt r)
theorem ev_dd (h : EvD ε K te σ W (⟨[]⟩ : Dict Int Int)) : EvR ε K te σ W (PyData.dict []) := fun W1 g1 Q k => h.rep W1 g1 Q fun v W2 g2 ⟨a, ks, e, r, kr⟩ => k v W2 g2 (by
  cases kr
  subst e
  exact DpD.dc (kv := []) r)
end
def dcls : PyData → String
  | .int _ => "int" | .bool _ => "bool" | .none => "NoneType" | .str _ => "str" | .tuple _ => "tuple" | .list _ => "list" | .dict _ => "dict"
theorem ty_sql {K : Fg} {H : Hp} {a : Addr} {xs : List V} (h : SqL K H a xs) : TyX K H (.ref a) (.type "list") := by
  rcases h with (h | ⟨o, h⟩) | ⟨o, its, n, h1, h2, _⟩
  · exact .base (.lst h)
  · exact .base (.frz h)
  · exact .kList h1 h2
theorem ty_sqt {K : Fg} {H : Hp} {a : Addr} {xs : List V} (h : SqT K H a xs) : TyX K H (.ref a) (.type "tuple") := by
  rcases h with (h | ⟨o, h⟩) | ⟨o, its, n, h1, h2, _⟩
  · exact .base (.tup h)
  · exact .fTuple h
  · exact .kTuple h1 h2
theorem ty_dt {K : Fg} (W1 : Wd) (v : V) (d : PyData) (h : rep K W1.B v d) : TyX K W1.H v (.type (dcls d)) := by
  have h2 : DpD K W1.H v d := dpd_ext W1.sub h
  clear h
  cases h2 with
  | pl h _ =>
    cases h with
    | non => exact .base .non
    | bl b => exact .base (.bl b)
    | int i => exact .base (.int i)
    | str s => exact .base (.str s)
    | lst hs _ => exact ty_sql hs
    | tup hs _ => exact ty_sqt hs
  | dc h =>
    rcases h with z | ⟨o, z⟩
    · exact .base (.dK z)
    · exact .fDict z
theorem rc_isD {K : Fg} {c : String} {d : PyData} {b : Bool} (hk : kitB (dcls d) c = some b) : RC2 K (rIsi K) d (Raw.mk (.ty c)) b := rc_isi (fun W1 v h => ty_dt W1 v d h) hk
/-- that a thing is of no such kind -/
def KdNo (K : Fg) (c : String) (v : V) (W : Wd) : Prop := ∃ a : String, (∀ W', Grow W W' → TyX K W'.H v (.type a)) ∧ kitB a c = some false
theorem KdNo.gr {K : Fg} {c : String} {v : V} {W W' : Wd} (h : KdNo K c v W) (g : Grow W W') : KdNo K c v W' := by
  obtain ⟨a, h1, h2⟩ := h
  exact ⟨a, fun W2 g2 => h1 W2 (g.trans g2), h2⟩
theorem kdno_dt {K : Fg} {c : String} {v : V} {W : Wd} {d : PyData} (h : rep K W.B v d) (hk : kitB (dcls d) c = some false) : KdNo K c v W := ⟨_, fun W' g => ty_dt W' v d (rep_g g h), hk⟩
theorem ev_kdNo {K : Fg} {c : String} {v : V} {W : Wd} {σ : SS} {te : TE} (h : EvR pur K te σ W (Raw.mk v)) (n : KdNo K c v W) : EvR pur K (tCB (rIsi K) (tCons te (tCons (tC (.ty c)) tNil))) σ W false := fun W1 g1 Q k => h W1 g1 _ fun u W2 g2 e => by
  obtain ⟨a, h1, h2⟩ := n
  rw [show u = v from e]
  exact ⟨v, .ty c, .type a, .type c, false, rfl, .ty c, h1 W2 (g1.trans g2).pure, kit_ty h2, k _ W2 g2 rfl⟩
/-- that a thing is no instance of an own class -/
def KdOf (K : Fg) (C : Addr) (v : V) (W : Wd) : Prop := ∃ t : Value, (∀ W', Grow W W' → TyX K W'.H v t) ∧ PySem.W.kitOne K t (.ref C) = some false
theorem KdOf.gr {K : Fg} {C : Addr} {v : V} {W W' : Wd} (h : KdOf K C v W) (g : Grow W W') : KdOf K C v W' := by
  obtain ⟨t, h1, h2⟩ := h
  exact ⟨t, fun W2 g2 => h1 W2 (g.trans g2), h2⟩
theorem ev_kdOf {K : Fg} {C : Addr} {W : Wd} {σ : SS} {te : TE} {v : V} (h : EvR pur K te σ W (Raw.mk v)) (n : KdOf K C v W) : EvR pur K (tCB (rIsi K) (tCons te (tCons (tC (.ref C)) tNil))) σ W false := fun W1 g1 Q k => h W1 g1 _ fun u W2 g2 e => by
  obtain ⟨t, h1, h2⟩ := n
  rw [show u = v from e]
  exact ⟨v, .ref C, t, .ref C, false, rfl, .own C, h1 W2 (g1.trans g2).pure, h2, k _ W2 g2 rfl⟩
end B
/-! runs: the class Runs -/
namespace B
open PySem L2
open PySem.W (Tup T3 T4 Datum DatumOrd)
open Evl (Ex)
structure RunsC (K : Fg) (C : Addr) : Prop where
  i : ClsI K C
  nt : NoAttr K C "ticks"
  nh : NoAttr K C "held"
theorem kth : ¬ (("ticks" : Str) = "held") := by decide +kernel
def rf (n : Int) (vh : V) : List (Str × V) := putF "held" vh (putF "ticks" (.int n) [])
section
variable {n : Int} {vh : V}
theorem rf_eq : rf n vh = ([("ticks", V.int n), ("held", vh)] : List (Str × V)) := by
  show (if ("ticks" : Str) = "held" then [(("ticks" : Str), vh)] else (("ticks" : Str), V.int n) :: putF "held" vh []) = ([("ticks", V.int n), ("held", vh)] : List (Str × V))
  rw [if_neg kth]
  all_goals rfl
theorem rf_t : (rf n vh).lookup ("ticks" : Str) = some (.int n) := by
  unfold rf
  rw [lookup_putF, if_neg kth, lookup_putF, if_pos rfl]
theorem rf_h : (rf n vh).lookup ("held" : Str) = some vh := by
  unfold rf
  rw [lookup_putF, if_pos rfl]
theorem rf_no {m : Str} (h1 : ¬ m = "held") (h2 : ¬ m = "ticks") : (rf n vh).lookup m = none := by
  unfold rf
  rw [lookup_putF, if_neg h1, lookup_putF, if_neg h2]
  all_goals rfl
theorem rf_putT {y : Int} : putF "ticks" (.int y) (rf n vh) = rf y vh := by
  rw [rf_eq, rf_eq]
  show (if ("ticks" : Str) = "ticks" then (("ticks" : Str), V.int y) :: [(("held" : Str), vh)] else _) = _
  rw [if_pos rfl]
theorem rf_putH {u : V} : putF "held" u (rf n vh) = rf n u := by
  rw [rf_eq, rf_eq]
  show (if ("ticks" : Str) = "held" then _ else (("ticks" : Str), V.int n) :: (if ("held" : Str) = "held" then [(("held" : Str), u)] else _)) = _
  rw [if_neg kth, if_pos rfl]
theorem rf_len : (rf n vh).length < 1000 := by
  rw [rf_eq]
  show 2 < 1000
  decide
end
/-- a run stands at x -/
structure RunAt (K : Fg) (W : Wd) (C x : Addr) (now : Nat) (L : List (List Int)) : Prop where
  b : W.B x = none
  ex : ∃ dx vh, W.H x = some (.ins C dx (rf now vh)) ∧ rep K W.B vh (flat 1 L)
  ok : LOk L
  len : L.length ≤ now
  sm : now ≤ 5000
section
variable {K : Fg} {W W' : Wd} {C x : Addr} {now : Nat} {L : List (List Int)} {S : List Addr} {σ : SS} {i : Nat} {ε : Ef}
theorem RunAt.nt (r : RunAt K W C x now L) : Nt W.H x := by
  obtain ⟨dx, vh, h, _⟩ := r.ex
  exact ⟨_, h, fun _ z => by cases z⟩
theorem RunAt.g (r : RunAt K W C x now L) (g : Md S W W') (h : x ∉ S) : RunAt K W' C x now L := by
  obtain ⟨dx, vh, hh, hr⟩ := r.ex
  have := g.mut h hh r.b
  exact ⟨this.2, ⟨dx, vh, this.1, rex g.b hr⟩, r.ok, r.len, r.sm⟩
theorem RunAt.gr (r : RunAt K W C x now L) (g : Grow W W') : RunAt K W' C x now L := r.g g (by simp)
theorem RunAt.s (r : RunAt K W C x now L) (g : Stp ε W W') (h : x ∉ ε.S) : RunAt K W' C x now L := r.g g.md h
theorem RunAt.fl (r : RunAt K W C x now L) : (flat 1 L).length ≤ 10000 := by
  have := flat_len L 1 r.ok
  have := r.len
  have := r.sm
  omega
theorem ev_ticks (c : RunsC K C) (hd : σ[i]? = some (some (.ref x))) (r : RunAt K W C x now L) (hS : x ∉ ε.S) : EvR ε K (tFld K (tVar i) "ticks") σ W (now : Int) := by
  obtain ⟨dx, vh, h1, h2⟩ := r.ex
  exact ev_fld c.i.cl c.nt hd r.b h1 hS rf_t rfl
theorem ev_held (c : RunsC K C) (hd : σ[i]? = some (some (.ref x))) (r : RunAt K W C x now L) (hS : x ∉ ε.S) : EvR ε K (tFld K (tVar i) "held") σ W (flat 1 L) := by
  obtain ⟨dx, vh, h1, h2⟩ := r.ex
  exact ev_fld c.i.cl c.nh hd r.b h1 hS rf_h h2
end
def Odd.tick (l m : Int) : Odd → Bool
  | .int n => inB l m n
  | _ => false
def sp_is_tick (K : Fg) : Sp := fun vs H Q _ => ∃ (W : Wd) (v : V) (t : Odd) (l m : Int), W.H = H ∧ vs = [v, .int l, .int m] ∧ rep K W.B v t ∧ ∀ W', Grow W W' → Q (.bl (t.tick l m)) W'.H
theorem len_is_tick {K : Fg} {vs : List V} {H : Hp} {Q : VK} {E : XK} (h : sp_is_tick K vs H Q E) : vs.length = ["thing", "least", "most"].length := by
  obtain ⟨W, v, t, l, m, _, rfl, _⟩ := h
  rfl
/-- is_tick: the slots 0 thing, 1 least, 2 most -/
abbrev n_is_tick : List Str := ["thing", "least", "most"]
def t_is_tick (K : Fg) : TS := (tRet (tAndV (tCB (rIsi K) (tCons (tVar 0) (tCons (tC (.ty "int")) tNil))) (tAndV (tNotV (tCB (rIsi K) (tCons (tVar 0) (tCons (tC (.ty "bool")) tNil)))) (tChain oLe oLe (tVar 1) (tVar 0) (tVar 2)))))
def sp_Runs___init__ (K : Fg) (C : Addr) : Sp := fun vs H Q _ => ∃ (W : Wd) (x dx : Addr), W.H = H ∧ vs = [.ref x] ∧ W.B x = none ∧ W.H x = some (.ins C dx []) ∧ ∀ W', Md [x] W W' → RunAt K W' C x 0 [] → Q .non W'.H
theorem len_Runs___init__ {K : Fg} {C : Addr} {vs : List V} {H : Hp} {Q : VK} {E : XK} (h : sp_Runs___init__ K C vs H Q E) : vs.length = ["self"].length := by
  obtain ⟨W, x, dx, _, rfl, _⟩ := h
  rfl
/-- Runs.__init__: the slots 0 self -/
abbrev n_Runs___init__ : List Str := ["self"]
def t_Runs___init__ (K : Fg) (c_Runs : Addr) : TS := (tSeq (sFld K (tVar 0) (tC (.int 0)) "ticks")
  (sFld K (tVar 0) (tLst tNil) "held"))
def sp_Runs_now (K : Fg) (C : Addr) : Sp := fun vs H Q _ => ∃ (W : Wd) (x : Addr) (now : Nat) (L : List (List Int)), W.H = H ∧ vs = [.ref x] ∧ RunAt K W C x now L ∧ ∀ W', Grow W W' → Q (.int now) W'.H
theorem len_Runs_now {K : Fg} {C : Addr} {vs : List V} {H : Hp} {Q : VK} {E : XK} (h : sp_Runs_now K C vs H Q E) : vs.length = ["self"].length := by
  obtain ⟨W, x, n, L, _, rfl, _⟩ := h
  rfl
/-- Runs.now: the slots 0 self -/
abbrev n_Runs_now : List Str := ["self"]
def t_Runs_now (K : Fg) (c_Runs : Addr) : TS := (tRet (tFld K (tVar 0) "ticks"))
def sp_Runs_groups (K : Fg) (C : Addr) : Sp := fun vs H Q _ => ∃ (W : Wd) (x : Addr) (now : Nat) (L : List (List Int)), W.H = H ∧ vs = [.ref x] ∧ RunAt K W C x now L ∧ ∀ p vs W', Grow W W' → W.H p = none → W'.B p = none → W'.H p = some (.lst vs) → Reps K W'.B vs (flat 1 L) → Q (.ref p) W'.H
theorem len_Runs_groups {K : Fg} {C : Addr} {vs : List V} {H : Hp} {Q : VK} {E : XK} (h : sp_Runs_groups K C vs H Q E) : vs.length = ["self"].length := by
  obtain ⟨W, x, n, L, _, rfl, _⟩ := h
  rfl
/-- Runs.groups: the slots 0 self -/
abbrev n_Runs_groups : List Str := ["self"]
def t_Runs_groups (K : Fg) (c_Runs : Addr) : TS := (tRet (tCB (rListO K) (tCons (tFld K (tVar 0) "held") tNil)))
def sp_Runs___eq__ (K : Fg) (C : Addr) : Sp := fun vs H Q _ => (∃ (W : Wd) (x y : Addr) (n m : Nat) (L M : List (List Int)), W.H = H ∧ vs = [.ref x, .ref y] ∧ RunAt K W C x n L ∧ RunAt K W C y m M ∧ ∀ W', Grow W W' → Q (.bl (decide (((n : Int), flat 1 L) = ((m : Int), flat 1 M)))) W'.H) ∨
  (∃ (W : Wd) (x : Addr) (u : V) (n : Nat) (L : List (List Int)), W.H = H ∧ vs = [.ref x, u] ∧ RunAt K W C x n L ∧ KdOf K C u W ∧ ∀ W', Grow W W' → Q (.bl false) W'.H)
theorem len_Runs___eq__ {K : Fg} {C : Addr} {vs : List V} {H : Hp} {Q : VK} {E : XK} (h : sp_Runs___eq__ K C vs H Q E) : vs.length = ["self", "other"].length := by
  rcases h with ⟨W, x, y, n, m, L, M, _, rfl, _⟩ | ⟨W, x, u, n, L, _, rfl, _⟩ <;> rfl
/-- Runs.__eq__: the slots 0 self, 1 other -/
abbrev n_Runs___eq__ : List Str := ["self", "other"]
def t_Runs___eq__ (K : Fg) (c_Runs : Addr) : TS := (tSeq (tIfS (tNot (tB (tCB (rIsi K) (tCons (tVar 1) (tCons (tC (.ref c_Runs)) tNil))))) (tRet (tC (.bl false))) tNext)
  (tRet (tOp (rEqT K false) (tTup (tCons (tFld K (tVar 0) "ticks") (tCons (tFld K (tVar 0) "held") tNil))) (tTup (tCons (tFld K (tVar 1) "ticks") (tCons (tFld K (tVar 1) "held") tNil))))))
def sp_Runs_twin (K : Fg) (C : Addr) : Sp := fun vs H Q _ => ∃ (W : Wd) (x : Addr) (now : Nat) (L : List (List Int)), W.H = H ∧ vs = [.ref x] ∧ RunAt K W C x now L ∧ ∀ y W', Grow W W' → W.H y = none → RunAt K W' C y now L → Q (.ref y) W'.H
theorem len_Runs_twin {K : Fg} {C : Addr} {vs : List V} {H : Hp} {Q : VK} {E : XK} (h : sp_Runs_twin K C vs H Q E) : vs.length = ["self"].length := by
  obtain ⟨W, x, n, L, _, rfl, _⟩ := h
  rfl
/-- Runs.twin: the slots 0 self, 1 found -/
abbrev n_Runs_twin : List Str := ["self", "found"]
def t_Runs_twin (K : Fg) (c_Runs : Addr) : TS := (tSeq (tAsg (tMake c_Runs (sp_Runs___init__ K c_Runs) [] E0 tNil) (gName 1))
  (tSeq (sFld K (tVar 1) (tFld K (tVar 0) "ticks") "ticks")
  (tSeq (sFld K (tVar 1) (tCB (rListO K) (tCons (tFld K (tVar 0) "held") tNil)) "held")
  (tRet (tVar 1)))))
def sp_Runs_tick (K : Fg) (C : Addr) : Sp := fun vs H Q E => (∃ (W : Wd) (x : Addr) (now : Nat) (L : List (List Int)) (b : Bool), W.H = H ∧ vs = [.ref x, .bl b] ∧ RunAt K W C x now L ∧ now < 5000 ∧
  ∀ W', Md [x] W W' → RunAt K W' C x (now + 1) (if b then insL (now + 1 : Nat) L else L) → Q .non W'.H) ∨
  (∃ (W : Wd) (x u : V), W.H = H ∧ vs = [x, u] ∧ KdNo K "bool" u W ∧ ∀ W', Grow W W' → E (.ref (cErr K "NoTruth")) none W'.H)
theorem len_Runs_tick {K : Fg} {C : Addr} {vs : List V} {H : Hp} {Q : VK} {E : XK} (h : sp_Runs_tick K C vs H Q E) : vs.length = ["self", "marked"].length := by
  rcases h with ⟨W, x, n, L, b, _, rfl, _⟩ | ⟨W, x, u, _, rfl, _⟩ <;> rfl
/-- Runs.tick: the slots 0 self, 1 marked, 2 size, 3 one, 4 at, 5 k -/
abbrev n_Runs_tick : List Str := ["self", "marked", "size", "one", "at", "k"]
def t_Runs_tick (K : Fg) (c_Runs : Addr) (E : XK) : TS := (tSeq (tIfS (tNot (tB (tCB (rIsi K) (tCons (tVar 1) (tCons (tC (.ty "bool")) tNil))))) (BX.tRaiseO (cErr K "NoTruth") E) tNext)
  (tSeq (sFldAug K (tVar 0) (tC (.int 1)) rAdd "ticks")
  (tSeq (tIfS (tNot (tB (tVar 1))) tRetN tNext)
  (tSeq (sFld K (tVar 0) (tOp rCat (tLst (tCons (tTup (tCons (tC (.int 1)) (tCons (tFld K (tVar 0) "ticks") tNil))) tNil)) (tFld K (tVar 0) "held")) "held")
  (tSeq (tAsg (tC (.int 1)) (gName 2))
  (tWhile (tTest (tOp rEq (tCB (rLen K) (tCons (tLc (iList K (tFld K (tVar 0) "held")) (gName 3) (tTest (tOp rEq (tOp (rIxT K) (tVar 3) (tC (.int 0))) (tVar 2))) (tVar 3) [3]) tNil)) (tC (.int 3))))
  (tSeq (tAsg (tCB (rMax K) (tCons (tLc (iEnum K (tCons (tFld K (tVar 0) "held") tNil)) (gPair K 5 3) (tTest (tOp rEq (tOp (rIxT K) (tVar 3) (tC (.int 0))) (tVar 2))) (tVar 5) [5, 3]) tNil)) (gName 4))
  (tSeq (sFld K (tVar 0) (tOp rCat (tOp rCat (tSl (rSlL K) (tFld K (tVar 0) "held") tNoPart (tPart (tOp oSub (tVar 4) (tC (.int 1))))) (tLst (tCons (tTup (tCons (tOp oMul (tC (.int 2)) (tVar 2)) (tCons (tOp (rIxT K) (tOp (rIxL K) (tFld K (tVar 0) "held") (tOp oSub (tVar 4) (tC (.int 1)))) (tC (.int 1))) tNil))) tNil))) (tSl (rSlL K) (tFld K (tVar 0) "held") (tPart (tOp oAdd (tVar 4) (tC (.int 1)))) tNoPart)) "held")
  (tAsg (tOp oMul (tC (.int 2)) (tVar 2)) (gName 2))))))))))
section
variable {K : Fg} {vs : List V} {H : Hp} {Q : VK} {E : XK} {C : Addr}
theorem rd_is_tick (h : sp_is_tick K vs H Q E) : t_is_tick K { nx := fun _ H' => Q .non H', rt := Q } (start n_is_tick vs) H := by
  obtain ⟨W, v, t, l, m, rfl, rfl, rt, k⟩ := h
  have e : ∀ {i : Int} {W : Wd}, rep K W.B (V.int i) i := rfl
  refine s_ret (ε := pur) (K := K) (x := t.tick l m) ((ev_andV (a := t.isI) (b := !t.isB && t.tick l m) (ev_cb2 (ev_var rfl rt) ev_raw (rc_isi (b := t.isI) (fun W1 v h => ty_odd W1 v t h) (odd_kitI t))) fun hI => ev_andV (a := !t.isB) (b := t.tick l m) (ev_notV (ev_cb2 (ev_var rfl rt) ev_raw (rc_isi (b := t.isB) (fun W1 v h => ty_odd W1 v t h) (odd_kitB t)))) fun hB => ?_).is ?_) trivial fun v W' g r => ?_
  · cases t with
    | int n => exact ev_chain (ev_var (x := l) rfl rfl) (ev_var (x := n) rfl rt) (ev_var (x := m) rfl rfl) ro_B0 ro_B0
    | bl b => cases hB
    | non => cases hI
    | str s => cases hI
    | tup n => cases hI
    | lst n => cases hI
    | dct => cases hI
  · cases t <;> rfl
  · rw [show v = _ from r]
    exact k W' g.pure
theorem rd_Runs___init__ (c : RunsC K C) (h : sp_Runs___init__ K C vs H Q E) : t_Runs___init__ K C { nx := fun _ H' => Q .non H', rt := Q } (start n_Runs___init__ vs) H := by
  obtain ⟨W, x, dx, rfl, rfl, hb, hh, k⟩ := h
  refine q_fld (K := K) (y := (0 : Int)) c.i.cl c.nt rfl hb hh (by show 0 < 1000; decide) ev_int fun v W1 g1 o1 b1 h1 r1 => ?_
  rw [show v = _ from r1] at h1
  refine s_fld (K := K) (y := ([] : List (Int × Int))) c.i.cl c.nh rfl b1 h1 (by show 1 < 1000; decide) (ev_lst ea_nil (by decide)) fun v2 W2 g2 o2 b2 h2 r2 => ?_
  exact k W2 (g1.trans g2) ⟨b2, ⟨dx, v2, h2, r2⟩, fun l hl => by simp at hl, Nat.le_refl _, by decide⟩
theorem rd_Runs_now (c : RunsC K C) (h : sp_Runs_now K C vs H Q E) : t_Runs_now K C { nx := fun _ H' => Q .non H', rt := Q } (start n_Runs_now vs) H := by
  obtain ⟨W, x, now, L, rfl, rfl, r, k⟩ := h
  refine s_ret (ε := pur) (K := K) (x := (now : Int)) (ev_ticks c rfl r (by simp [pur])) trivial fun v W' g rv => ?_
  rw [show v = _ from rv]
  exact k W' g.pure
/-- list(xs), a new list -/
theorem en_listC {α : Type} [Py α] {ε : Ef} {te : TE} {σ : SS} {W : Wd} {xs : List α} (h : EvR ε K te σ W xs) : EvN ε K (tCB (rListO K) (tCons te tNil)) σ W xs := fun W1 g1 Q k => h W1 g1 _ fun v W2 g2 ⟨a, vs, e, s, r⟩ => ⟨a, vs, by rw [e], .inl (SqL.of (W2.sub.el s)), fun l hl =>
  k l vs (W2.put l (.lst vs) (W2.free hl)) (g2.and (W2.grow_put hl)) (by
    cases q : W1.H l with
    | none => rfl
    | some o => exact absurd hl (g2.md.d l (by rw [q]; exact fun z => by cases z))) (W2.free hl) upd_same r⟩
theorem rd_Runs_groups (c : RunsC K C) (h : sp_Runs_groups K C vs H Q E) : t_Runs_groups K C { nx := fun _ H' => Q .non H', rt := Q } (start n_Runs_groups vs) H := by
  obtain ⟨W, x, now, L, rfl, rfl, r, k⟩ := h
  exact en_listC (ε := pur) (ev_held c rfl r (by simp [pur])) W (.start trivial) _ fun p vs W' g f b e rs => k p vs W' g.pure f b e rs
theorem rd_Runs_twin (c : RunsC K C) (h : sp_Runs_twin K C vs H Q E) : t_Runs_twin K C { nx := fun _ H' => Q .non H', rt := Q } (start n_Runs_twin vs) H := by
  obtain ⟨W, x, now, L, rfl, rfl, r, k⟩ := h
  intro y dx hy hdx hne
  have g1 : Grow W (W.put dx (.own y) (W.free hdx)) := W.grow_put hdx
  have hy1 : (W.put dx (.own y) (W.free hdx)).H y = none := (upd_ne hne.symm).trans hy
  have g2 := (W.put dx (.own y) (W.free hdx)).grow_put (o := .ins C dx []) hy1
  have hb2 : ((W.put dx (.own y) (W.free hdx)).put y (.ins C dx []) (Wd.free _ hy1)).B y = none := W.free hy
  have hh2 : ((W.put dx (.own y) (W.free hdx)).put y (.ins C dx []) (Wd.free _ hy1)).H y = some (.ins C dx []) := upd_same
  refine ⟨_, y, dx, rfl, rfl, hb2, hh2, fun W3 g3 r3 => ⟨rfl, ?_⟩⟩
  have G3 : Grow W W3 := Md.fresh (S := []) (g1.trans g2) g3 hy
  have rx3 := r.gr G3
  have nxy : x ≠ y := fun z => by
    obtain ⟨_, _, h, _⟩ := r.ex
    rw [z, hy] at h
    cases h
  obtain ⟨dy, vh, h3, _⟩ := r3.ex
  show tSeq _ _ _ [some (.ref x), some (.ref y)] W3.H
  refine q_fld (K := K) (y := (now : Int)) c.i.cl c.nt rfl r3.b h3 rf_len (ev_ticks c rfl rx3 (by simp [pur])) fun v4 W4 m4 o4 b4 h4 r4 => ?_
  rw [show v4 = _ from r4, rf_putT] at h4
  refine q_fld (K := K) (y := flat 1 L) c.i.cl c.nh rfl b4 h4 rf_len (ev_cb1 (ev_held c rfl (rx3.g m4 (by simpa using nxy)) (by simp [pur])) rc_list) fun v5 W5 m5 o5 b5 h5 r5 => ?_
  rw [rf_putH] at h5
  exact ⟨_, rfl, k y W5 (Md.fresh (S := []) G3 (m4.trans m5) hy) hy ⟨b5, ⟨dy, v5, h5, r5⟩, r.ok, r.len, r.sm⟩⟩
theorem rd_Runs___eq__ (c : RunsC K C) (h : sp_Runs___eq__ K C vs H Q E) : t_Runs___eq__ K C { nx := fun _ H' => Q .non H', rt := Q } (start n_Runs___eq__ vs) H := by
  rcases h with ⟨W, x, y, n, m, L, M, rfl, rfl, r1, r2, k⟩ | ⟨W, x, u, n, L, rfl, rfl, r, no, k⟩
  rotate_left
  · refine q_when (ε := pur) (b := true) ((et_not (et_B (ev_kdOf (K := K) (ev_rvar (i := 1) rfl) no))).is rfl) trivial (fun _ W1 g1 => ?_) (fun z => by cases z)
    exact k W1 g1.pure
  obtain ⟨dy, vy, hy, _⟩ := r2.ex
  refine q_when (ε := pur) (b := false) ((et_not (et_B (ev_isOwn c.i rfl r2.b hy (by simp [pur])))).is rfl) trivial (fun z => by cases z) fun _ W1 g1 => ?_
  have r1' := r1.gr g1.pure
  have r2' := r2.gr g1.pure
  refine s_ret (ε := pur) (K := K) (x := decide (((n : Int), flat 1 L) = ((m : Int), flat 1 M))) (ev_op (ev_pair (ev_ticks c rfl r1' (by simp [pur])) (ev_held c rfl r1' (by simp [pur]))) (ev_pair (ev_ticks c rfl r2' (by simp [pur])) (ev_held c rfl r2' (by simp [pur]))) (ro_eqT (by decide))) trivial fun v W' g rv => ?_
  rw [show v = _ from rv]
  exact k W' (g1.pure.trans g.pure)
theorem flat_ge : ∀ (R : List (List Int)) (s : Int), 1 ≤ s → ∀ q ∈ flat s R, s ≤ q.1
  | [], s, _, q, h => by simp [flat] at h
  | l :: r, s, hs, q, h => by
    rcases List.mem_append.mp h with z | z
    · obtain ⟨x, _, rfl⟩ := List.mem_map.mp z
      exact Int.le_refl _
    · have := flat_ge r (2 * s) (by omega) q z
      omega
theorem filt_pre {pre : List (Int × Int)} {s : Int} (h : ∀ q ∈ pre, q.1 < s) : pre.filter (fun q => decide (q.1 = s)) = [] := List.filter_eq_nil_iff.mpr fun q hq z => by
  have := h q hq
  have := of_decide_eq_true z
  omega
theorem filt_flat {R : List (List Int)} {s : Int} (h : 1 ≤ s) : (flat (2 * s) R).filter (fun q => decide (q.1 = s)) = [] := List.filter_eq_nil_iff.mpr fun q hq z => by
  have := flat_ge R (2 * s) (by omega) q hq
  have := of_decide_eq_true z
  omega
theorem rd_Runs_tick (c : RunsC K C) (h : sp_Runs_tick K C vs H Q E) : t_Runs_tick K C E { nx := fun _ H' => Q .non H', rt := Q } (start n_Runs_tick vs) H := by
  rcases h with ⟨W, x, now, L, b, rfl, rfl, r, hs, k⟩ | ⟨W, x, u, rfl, rfl, no, k⟩
  rotate_left
  · exact q_when (ε := pur) (b := true) ((et_not (et_B (ev_kdNo (K := K) (ev_rvar (i := 1) rfl) no))).is rfl) trivial (fun _ W1 g1 => k W1 g1.pure) (fun z => by cases z)
  show t_Runs_tick K C E _ [some (.ref x), some (.bl b), none, none, none, none] W.H
  refine q_when (ε := pur) (b := false) ((et_not (et_B (ev_cb2 (ev_var (x := b) rfl rfl) ev_raw (rc_isi (b := true) ty_bl (by decide +kernel))))).is rfl) trivial (fun z => by cases z) fun _ W1 g1 => ?_
  have r1 := r.gr g1.pure
  obtain ⟨dx, vh, hx, hr⟩ := r1.ex
  -- self.ticks += 1
  refine ⟨_, rfl, x, C, dx, rf now vh, .int now, rfl, hx, c.i.cl, c.nt, rf_t, now, 1, rfl, rfl, dx, rf now vh, hx, rf_len, ?_⟩
  rw [rf_putT]
  have gx := md_put (o := .ins C dx (rf (((now : Int) + 1)) vh)) r1.b
  have hx2 : (W1.put x (.ins C dx (rf ((now : Int) + 1) vh)) r1.b).H x = some (.ins C dx (rf ((now : Int) + 1) vh)) := upd_same
  have bx2 : (W1.put x (.ins C dx (rf ((now : Int) + 1) vh)) r1.b).B x = none := r1.b
  have hr2 : rep K (W1.put x (.ins C dx (rf ((now : Int) + 1) vh)) r1.b).B vh (flat 1 L) := hr
  generalize hW2 : W1.put x (.ins C dx (rf ((now : Int) + 1) vh)) r1.b = W2 at gx hx2 bx2 hr2
  have hH : upd W1.H x (.ins C dx (rf ((now : Int) + 1) vh)) = W2.H := by rw [← hW2]; rfl
  rw [hH]
  have ecast : ((now : Int) + 1) = ((now + 1 : Nat) : Int) := by omega
  have fl := r.fl
  have hlen := r.len
  -- if not marked: return
  show tSeq (tIfS (tNot (tB (tVar 1))) tRetN tNext) _ _ _ W2.H
  refine q_when (ε := pur) (et_not (et_B (K := K) (ev_var (x := b) rfl rfl))) trivial (fun hb W3 g3 => ?_) (fun hb W3 g3 => ?_)
  · have b0 : b = false := by simpa using hb
    subst b0
    have m := g3.pure.mut (by simp) hx2 bx2
    refine k W3 (((Grow.s g1.pure).trans gx).trans (Grow.s g3.pure)) ⟨m.2, ⟨dx, vh, by rw [m.1, ecast], rep_s g3 hr2⟩, r.ok, by show L.length ≤ now + 1; omega, by omega⟩
  · have b1 : b = true := by simpa using hb
    subst b1
    have m3 := g3.pure.mut (by simp) hx2 bx2
    have hr3 := rep_s g3 hr2
    have G3 : Md [x] W W3 := ((Grow.s g1.pure).trans gx).trans (Grow.s g3.pure)
    have evT : ∀ {W : Wd} {σ : SS} {vh : V}, σ[0]? = some (some (.ref x)) → W.B x = none → W.H x = some (.ins C dx (rf ((now : Int) + 1) vh)) → EvR pur K (tFld K (tVar 0) "ticks") σ W ((now : Int) + 1) := fun h1 h2 h3 => ev_fld c.i.cl c.nt h1 h2 h3 (by simp [pur]) rf_t rfl
    have evH : ∀ {W : Wd} {σ : SS} {vh : V} {hl : List (Int × Int)}, σ[0]? = some (some (.ref x)) → W.B x = none → W.H x = some (.ins C dx (rf ((now : Int) + 1) vh)) → rep K W.B vh hl → EvR pur K (tFld K (tVar 0) "held") σ W hl := fun h1 h2 h3 h4 => ev_fld c.i.cl c.nh h1 h2 h3 (by simp [pur]) rf_h h4
    -- self.held = [(1, self.ticks)] + self.held
    refine q_fld (K := K) (y := [((1 : Int), (now : Int) + 1)] ++ flat 1 L) c.i.cl c.nh rfl m3.2 m3.1 rf_len (ev_op (ev_lst (ea_cons (ev_pair ev_int (evT rfl m3.2 m3.1)) ea_nil) (by show 1 ≤ 100000; decide)) (evH rfl m3.2 m3.1 hr3) (ro_cat (by rw [List.length_singleton]; omega))) fun vh4 W4 g4 o4 b4 h4 r4 => ?_
    rw [rf_putH] at h4
    -- size = 1
    refine q_asg (ε := pur) (K := K) (x := (1 : Int)) ev_int trivial fun v1 W5 g5 e1 => ?_
    have e1' : v1 = .int 1 := e1
    subst e1'
    have m5 := g5.pure.mut (by simp) h4 b4
    -- the while
    refine s_while (ε := pur) (fun m σ' W' => ∃ (s : Int) (pre : List (Int × Int)) (t : Int) (R : List (List Int)) (v3 v4 v5 : Option V) (vh : V), σ' = [some (.ref x), some (.bl true), some (.int s), v3, v4, v5] ∧ Md [x] W W' ∧ W'.B x = none ∧ W'.H x = some (.ins C dx (rf ((now : Int) + 1) vh)) ∧ rep K W'.B vh (pre ++ (s, t) :: flat s R) ∧
      1 ≤ s ∧ (∀ q ∈ pre, q.1 < s) ∧ LOk R ∧ pre ++ flat s (insL t R) = flat 1 (insL ((now : Int) + 1) L) ∧ (pre ++ (s, t) :: flat s R).length ≤ 10001 ∧ m = R.length) _
      ⟨1, [], (now : Int) + 1, L, none, none, none, vh4, rfl, (G3.trans g4).trans (Grow.s g5.pure), m5.2, m5.1, rep_s g5 r4, by decide, by simp, r.ok, rfl, by rw [List.nil_append, List.length_cons]; omega, rfl⟩ ?_
    rintro m σ' W6 ⟨s, pre, t, R, v3, v4, v5, vh6, rfl, g6, b6, h6, r6, hs1, hpre, hR, hfin, hl, rfl⟩
    have test : EvT pur (tTest (tOp rEq (tCB (rLen K) (tCons (tLc (iList K (tFld K (tVar 0) "held")) (gName 3) (tTest (tOp rEq (tOp (rIxT K) (tVar 3) (tC (.int 0))) (tVar 2))) (tVar 3) [3]) tNil)) (tC (.int 3)))) [some (.ref x), some (.bl true), some (.int s), v3, v4, v5] W6 (decide ((((pre ++ (s, t) :: flat s R).filter fun q => decide (q.1 = s)).map id).length = (3 : Int))) := by
      refine et_test (ev_op (ev_cb1 (ev_lcNt (K := K) (xs := pre ++ (s, t) :: flat s R) (p := fun q => decide (q.1 = s)) (f := id) (EvJ.i (ei_list (evH rfl b6 h6 r6))) (fun q v W' hq g rq => et_test (ev_op (ev_op (ev_var rfl rq) ev_int ro_ixP0) (ev_var (x := s) rfl rfl) ro_eqI)) (fun q v W' hq _ g rq => ev_var rfl rq) (by omega)) rc_len) ev_int ro_eqI)
    refine ⟨trivial, _, test, ?_⟩
    have done : ∀ W7, Stp pur W6 W7 → flat s (insL t R) = (s, t) :: flat s R → (fun (_ : SS) H' => Q V.non H') [some (.ref x), some (.bl true), some (.int s), v3, v4, v5] W7.H := fun W7 g7 e => by
      have m7 := g7.pure.mut (by simp) h6 b6
      refine k W7 (g6.trans (Grow.s g7.pure)) ⟨m7.2, ⟨dx, vh6, by rw [m7.1, ecast], ?_⟩, lok_ins L _ r.ok, ?_, by omega⟩
      · rw [e, ecast] at hfin
        show rep K W7.B vh6 (flat 1 (insL ((now + 1 : Nat) : Int) L))
        rw [← hfin]
        exact rep_s g7 r6
      · have := len_ins L ((now + 1 : Nat) : Int)
        show (insL ((now + 1 : Nat) : Int) L).length ≤ now + 1
        omega
    have flt : ((pre ++ (s, t) :: flat s R).filter fun q => decide (q.1 = s)) = (s, t) :: (flat s R).filter fun q => decide (q.1 = s) := by
      rw [List.filter_append, filt_pre hpre, List.nil_append, List.filter_cons, if_pos (by simp)]
    match R, hR, flt, done, r6, hfin, hl with
    | [], _, flt, done, _, _, _ =>
      refine ⟨fun hb => ?_, fun hb W7 g7 => done W7 g7 rfl⟩
      rw [flt] at hb
      simp [flat] at hb
    | [a] :: R, _, flt, done, _, _, _ =>
      have e : (flat s ([a] :: R)).filter (fun q => decide (q.1 = s)) = [(s, a)] := by
        show ([(s, a)] ++ flat (2 * s) R).filter _ = _
        rw [List.filter_append, filt_flat hs1]
        simp
      refine ⟨fun hb => ?_, fun hb W7 g7 => done W7 g7 rfl⟩
      rw [flt, e] at hb
      simp at hb
    | [] :: R, hR, _, _, _, _, _ =>
      have := hR [] List.mem_cons_self
      simp at this
    | (a :: b :: c' :: d) :: R, hR, _, _, _, _, _ =>
      have := hR _ List.mem_cons_self
      simp at this
    | [a, b] :: R, hR, flt, _, r6, hfin, hl =>
      have e : (flat s ([a, b] :: R)).filter (fun q => decide (q.1 = s)) = [(s, a), (s, b)] := by
        show ([(s, a), (s, b)] ++ flat (2 * s) R).filter _ = _
        rw [List.filter_append, filt_flat hs1]
        simp
      refine ⟨fun _ W7 g7 => ?_, fun hb => ?_⟩
      rotate_left
      · rw [flt, e] at hb
        simp at hb
      have m7 := g7.pure.mut (by simp) h6 b6
      have r7 := rep_s g7 r6
      have hsp : pre ++ (s, t) :: flat s ([a, b] :: R) = (pre ++ [(s, t)]) ++ ([(s, a)] ++ ((s, b) :: flat (2 * s) R)) := by
        rw [List.append_assoc]
        rfl
      rw [hsp] at r7 hl
      have hll : (pre ++ [(s, t)]).length = pre.length + 1 := by rw [List.length_append]; rfl
      simp only [List.length_append, List.length_cons, List.length_nil] at hl
      generalize hhl : (pre ++ [(s, t)]) ++ ([(s, a)] ++ ((s, b) :: flat (2 * s) R)) = hld at r7
      have hlen2 : hld.length = pre.length + 3 + (flat (2 * s) R).length := by rw [← hhl]; simp only [List.length_append, List.length_cons, List.length_nil]; omega
      have hla : hld[pre.length + 1]? = some (s, a) := by
        rw [← hhl, List.getElem?_append_right (by rw [hll]; exact Nat.le_refl _), hll, Nat.sub_self]
        rfl
      have hlb : hld[pre.length + 2]? = some (s, b) := by
        rw [← hhl, List.getElem?_append_right (by rw [hll]; omega), hll, show pre.length + 2 - (pre.length + 1) = 1 by omega]
        rfl
      -- at = max(..)
      refine q_asg (ε := pur) (K := K) (x := ((pre.length + 2 : Nat) : Int)) (ev_cb1 (ev_lcPt (K := K) (xs := (rng 0 hld.length).zip hld) (p := fun q => decide (q.2.1 = s)) (f := fun q => q.1) (EvJ.i (ei_enum (evH rfl m7.2 m7.1 r7))) (fun q v u W' hq g r1 r2 => et_test (ev_op (ev_op (ev_var rfl r2) ev_int ro_ixP0) (ev_var (x := s) rfl rfl) ro_eqI)) (fun q v u W' hq _ g r1 r2 => ev_var rfl r1) (by rw [List.length_zip, rng_len]; omega)) (rc_max ?_ ?_)) trivial fun va W8 g8 ra => ?_
      · refine List.mem_map.mpr ⟨(((pre.length + 2 : Nat) : Int), (s, b)), List.mem_filter.mpr ⟨?_, by simp⟩, rfl⟩
        refine List.mem_of_getElem? (i := pre.length + 2) ?_
        rw [List.getElem?_zip_eq_some]
        exact ⟨by rw [rng_get (by omega), Int.zero_add], hlb⟩
      · intro y hy
        obtain ⟨q, hq, rfl⟩ := List.mem_map.mp hy
        obtain ⟨hq1, hq2⟩ := List.mem_filter.mp hq
        obtain ⟨j, hj⟩ := List.mem_iff_getElem?.mp hq1
        rw [List.getElem?_zip_eq_some] at hj
        obtain ⟨j1, j2⟩ := hj
        have hjl : j < hld.length := (List.getElem?_eq_some_iff.mp j2).1
        rw [rng_get hjl, Int.zero_add] at j1
        have j1' : q.1 = (j : Int) := (Option.some.inj j1).symm
        by_cases hjj : j ≤ pre.length + 2
        · omega
        · have : q.2 ∈ flat (2 * s) R := by
            rw [← hhl, List.getElem?_append_right (by rw [hll]; omega), hll, List.getElem?_append_right (by rw [List.length_singleton]; omega), List.length_singleton] at j2
            obtain ⟨j', hj'⟩ : ∃ j', j - (pre.length + 1) - 1 = j' + 1 := ⟨j - (pre.length + 1) - 2, by omega⟩
            rw [hj', List.getElem?_cons_succ] at j2
            exact List.mem_of_getElem? j2
          have h1 := flat_ge R (2 * s) (by omega) q.2 this
          have h2 : q.2.1 = s := of_decide_eq_true hq2
          omega
      have ea : va = .int ((pre.length + 2 : Nat) : Int) := ra
      subst ea
      have m8 := g8.pure.mut (by simp) m7.1 m7.2
      have r8 := rep_s g8 r7
      -- self.held = ..
      have ev1 : ∀ {σ : SS}, σ[4]? = some (some (V.int ((pre.length + 2 : Nat) : Int))) → EvR pur K (tOp oSub (tVar 4) (tC (.int 1))) σ W8 ((pre.length + 1 : Nat) : Int) := fun h => (ev_op (ev_var (x := ((pre.length + 2 : Nat) : Int)) h rfl) ev_int ro_I0).is (by omega)
      have ev2 : ∀ {σ : SS}, σ[4]? = some (some (V.int ((pre.length + 2 : Nat) : Int))) → EvR pur K (tOp oAdd (tVar 4) (tC (.int 1))) σ W8 ((pre.length + 3 : Nat) : Int) := fun h => (ev_op (ev_var (x := ((pre.length + 2 : Nat) : Int)) h rfl) ev_int ro_I0).is (by omega)
      have take1 : hld.take (pre.length + 1) = pre ++ [(s, t)] := by rw [← hhl]; exact List.take_left' hll
      have drop1 : hld.drop (pre.length + 3) = flat (2 * s) R := by
        rw [← hhl, show pre.length + 3 = (pre ++ [(s, t)]).length + 2 by rw [hll], List.drop_length_add_append]
        rfl
      refine q_fld (K := K) (y := ((pre ++ [(s, t)]) ++ [((2 : Int) * s, a)]) ++ flat (2 * s) R) c.i.cl c.nh rfl m8.2 m8.1 rf_len (ev_op (ev_op ((ev_slL (evH rfl m8.2 m8.1 r8) eo_none (eo_some (ev1 rfl))).is ?_) (ev_lst (ea_cons (ev_pair (ev_op ev_int (ev_var (x := s) rfl rfl) (ro_I ?_)) (ev_op (ev_op (evH rfl m8.2 m8.1 r8) (ev1 rfl) (ro_ixL (atI_nat hla))) ev_int ro_ixP1)) ea_nil) (by show 1 ≤ 100000; decide)) (ro_cat ?_)) ((ev_slL (evH rfl m8.2 m8.1 r8) (eo_some (ev2 rfl)) eo_none).is ?_) (ro_cat ?_)) fun vh9 W9 g9 o9 b9 h9 r9 => ?_
      · rw [cut_to (by omega)]; exact take1
      · exact .inl ⟨by decide, by decide⟩
      · rw [hll, List.length_singleton]; omega
      · rw [cut_from (by omega)]; exact drop1
      · rw [List.length_append, hll, List.length_singleton]; omega
      rw [rf_putH] at h9
      -- size = 2 * size
      refine s_asg (ε := pur) (K := K) (x := (2 : Int) * s) (ev_op ev_int (ev_var (x := s) rfl rfl) (ro_I (.inl ⟨by decide, by decide⟩))) trivial fun vs2 W10 g10 r10 => ?_
      have es : vs2 = .int (2 * s) := r10
      subst es
      have m10 := g10.pure.mut (by simp) h9 b9
      have eqq : ((pre ++ [(s, t)]) ++ [((2 : Int) * s, a)]) ++ flat (2 * s) R = (pre ++ [(s, t)]) ++ (2 * s, a) :: flat (2 * s) R := by rw [List.append_assoc]; rfl
      refine ⟨R.length, W10, Nat.lt_succ_self _, rfl, 2 * s, pre ++ [(s, t)], a, R, _, _, _, vh9, rfl, (((g6.trans (Grow.s g7.pure)).trans (Grow.s g8.pure)).trans g9).trans (Grow.s g10.pure), m10.2, m10.1, by rw [← eqq]; exact rep_s g10 r9, by omega, fun q hq => ?_, fun l hl' => hR l (List.mem_cons_of_mem _ hl'), ?_, ?_, rfl⟩
      · rcases List.mem_append.mp hq with z | z
        · have := hpre q z; omega
        · rw [List.mem_singleton.mp z]; show s < 2 * s; omega
      · rw [← hfin, List.append_assoc]
        rfl
      · rw [List.length_append, hll, List.length_cons]; omega
end
end B
/-! the draws of the laws whose state is a dict: begun, draw -/
namespace B
open PySem L2
open Evl (Ex)
abbrev kS (x : Str) : Key := Sum.inr x
theorem k_ca : ¬ kS "cells" = kS "at" := by decide +kernel
theorem k_cr : ¬ kS "cells" = kS "rest" := by decide +kernel
theorem k_ct : ¬ kS "cells" = kS "turn" := by decide +kernel
theorem k_cm : ¬ kS "cells" = kS "more" := by decide +kernel
theorem k_ar : ¬ kS "at" = kS "rest" := by decide +kernel
theorem k_at : ¬ kS "at" = kS "turn" := by decide +kernel
theorem k_am : ¬ kS "at" = kS "more" := by decide +kernel
theorem k_rt : ¬ kS "rest" = kS "turn" := by decide +kernel
theorem k_rm : ¬ kS "rest" = kS "more" := by decide +kernel
theorem k_tm : ¬ kS "turn" = kS "more" := by decide +kernel
def sk (cv : V) (a r t m : Int) : List (Key × V) := [(kS "cells", cv), (kS "at", .int a), (kS "rest", .int r), (kS "turn", .int t), (kS "more", .int m)]
section
variable {cv : V} {a r t m : Int} {v : V}
theorem v_cells : valV (sk cv a r t m) (kS "cells") = some cv := valV_pos rfl
theorem v_at : valV (sk cv a r t m) (kS "at") = some (.int a) := by unfold sk; rw [valV_neg k_ca, valV_pos rfl]
theorem v_rest : valV (sk cv a r t m) (kS "rest") = some (.int r) := by unfold sk; rw [valV_neg k_cr, valV_neg k_ar, valV_pos rfl]
theorem v_turn : valV (sk cv a r t m) (kS "turn") = some (.int t) := by unfold sk; rw [valV_neg k_ct, valV_neg k_at, valV_neg k_rt, valV_pos rfl]
theorem v_more : valV (sk cv a r t m) (kS "more") = some (.int m) := by unfold sk; rw [valV_neg k_cm, valV_neg k_am, valV_neg k_rm, valV_neg k_tm, valV_pos rfl]
theorem merge_sk : mergeK [] (sk cv a r t m) = sk cv a r t m := by
  have e : ∀ (l : List (Key × V)) (k : Key) (x : V), (∀ q ∈ l, ¬ q.1 = k) → putK l k x = l ++ [(k, x)] := fun l k x h => by
    unfold putK
    rw [if_neg fun z => ?_]
    obtain ⟨q, hq, e⟩ := List.any_eq_true.mp z
    exact h q hq (of_decide_eq_true e)
  unfold mergeK sk
  rw [List.foldl_cons, e [] _ _ (by simp), List.foldl_cons, e _ _ _ (by simp only [List.nil_append, List.mem_singleton]; intro q hq; rw [hq]; exact k_ca), List.foldl_cons, e _ _ _ ?_, List.foldl_cons, e _ _ _ ?_, List.foldl_cons, e _ _ _ ?_]
  · rfl
  · intro q hq
    simp only [List.nil_append, List.cons_append, List.mem_cons, List.not_mem_nil, or_false] at hq
    rcases hq with z | z | z | z <;> rw [z]
    · exact k_cm
    · exact k_am
    · exact k_rm
    · exact k_tm
  · intro q hq
    simp only [List.nil_append, List.cons_append, List.mem_cons, List.not_mem_nil, or_false] at hq
    rcases hq with z | z | z <;> rw [z]
    · exact k_ct
    · exact k_at
    · exact k_rt
  · intro q hq
    simp only [List.nil_append, List.cons_append, List.mem_cons, List.not_mem_nil, or_false] at hq
    rcases hq with z | z <;> rw [z]
    · exact k_cr
    · exact k_ar
theorem put_any {k : Key} (h : k ∈ (sk cv a r t m).map (·.1)) : ((sk cv a r t m).any fun q => decide (q.1 = k)) = true := by
  obtain ⟨q, hq, e⟩ := List.mem_map.mp h
  exact List.any_eq_true.mpr ⟨q, hq, decide_eq_true e⟩
theorem p_at {x : Int} : putK (sk cv a r t m) (kS "at") (.int x) = sk cv x r t m := by
  unfold putK
  rw [if_pos (put_any (by simp [sk]))]
  unfold sk
  rw [List.map_cons, List.map_cons, List.map_cons, List.map_cons, List.map_cons, List.map_nil, if_neg k_ca, if_pos rfl, if_neg (Ne.symm k_ar), if_neg (Ne.symm k_at), if_neg (Ne.symm k_am)]
theorem p_rest {x : Int} : putK (sk cv a r t m) (kS "rest") (.int x) = sk cv a x t m := by
  unfold putK
  rw [if_pos (put_any (by simp [sk]))]
  unfold sk
  rw [List.map_cons, List.map_cons, List.map_cons, List.map_cons, List.map_cons, List.map_nil, if_neg k_cr, if_neg k_ar, if_pos rfl, if_neg (Ne.symm k_rt), if_neg (Ne.symm k_rm)]
theorem p_turn {x : Int} : putK (sk cv a r t m) (kS "turn") (.int x) = sk cv a r x m := by
  unfold putK
  rw [if_pos (put_any (by simp [sk]))]
  unfold sk
  rw [List.map_cons, List.map_cons, List.map_cons, List.map_cons, List.map_cons, List.map_nil, if_neg k_ct, if_neg k_at, if_neg k_rt, if_pos rfl, if_neg (Ne.symm k_tm)]
theorem p_more {x : Int} : putK (sk cv a r t m) (kS "more") (.int x) = sk cv a r t x := by
  unfold putK
  rw [if_pos (put_any (by simp [sk]))]
  unfold sk
  rw [List.map_cons, List.map_cons, List.map_cons, List.map_cons, List.map_cons, List.map_nil, if_neg k_cm, if_neg k_am, if_neg k_rm, if_neg k_tm, if_pos rfl]
end
/-- the state stands so -/
structure SdV (K : Fg) (W : Wd) (p : Addr) (cv : V) (cs : List Int) (a r t m : Int) : Prop where
  b : W.B p = none
  h : W.H p = some (.dK (sk cv a r t m))
  c : rep K W.B cv cs
  l : cs.length ≤ 63
  pos : ∀ x ∈ cs, 0 ≤ x
  a0 : 0 ≤ a
  r0 : 0 ≤ r
  t0 : 0 ≤ t
  m0 : 0 ≤ m
structure Sd (K : Fg) (W : Wd) (p : Addr) : Prop where
  ex : ∃ cv cs a r t m, SdV K W p cv cs a r t m
section
variable {K : Fg} {W W' : Wd} {p : Addr} {cv : V} {cs : List Int} {a r t m : Int} {S : List Addr}
theorem SdV.g (s : SdV K W p cv cs a r t m) (g : Md S W W') (h : p ∉ S) : SdV K W' p cv cs a r t m := by
  have := g.mut h s.h s.b
  exact ⟨this.2, this.1, rex g.b s.c, s.l, s.pos, s.a0, s.r0, s.t0, s.m0⟩
theorem Sd.nt (s : Sd K W p) : Nt W.H p := by
  obtain ⟨cv, cs, a, r, t, m, s⟩ := s.ex
  exact .k s.h
theorem Sd.dom (s : Sd K W p) : W.H p ≠ none := s.nt.ne
theorem Sd.off (s : Sd K W p) (g : Md S W W') (h : p ∉ S) : Sd K W' p := by
  obtain ⟨cv, cs, a, r, t, m, s⟩ := s.ex
  exact ⟨cv, cs, a, r, t, m, s.g g h⟩
theorem Sd.g (s : Sd K W p) (g : Grow W W') : Sd K W' p := s.off g (by simp)
end
/-- the effect of drawing -/
def drd (K : Fg) (p : Addr) : Ef := ⟨[p], fun W => Sd K W p, fun W a s h => by
    rw [List.mem_singleton.mp h]; exact s.nt,
  fun W W' b h s => by
    obtain ⟨cv, cs, a, r, t, m, s'⟩ := s.ex
    have h1 := h p (by simp) s.nt
    exact ⟨cv, cs, a, r, t, m, h1.2.trans s'.b, h1.1.trans s'.h, rex b s'.c, s'.l, s'.pos, s'.a0, s'.r0, s'.t0, s'.m0⟩⟩
section
variable {α : Type} [Py α] {K : Fg} {W : Wd} {σ : SS} {i : Nat} {d : Addr} {ks : List (Key × V)} {key : Str} {v : V} {x : α} {tv : TE}
theorem ev_dgetR (hd : σ[i]? = some (some (.ref d))) (hb : W.B d = none) (hh : W.H d = some (.dK ks)) (hv : valV ks (kS key) = some v) (r : rep K W.B v x) : EvR pur K (tDGet (tVar i) (tC (.str key))) σ W x := fun W1 g1 Q k => by
  have m := g1.pure.mut (by simp) hh hb
  exact ⟨_, hd, d, v, rfl, .inl ⟨ks, kS key, .inl m.1, rfl, hv.symm⟩, k v W1 g1.rf (rep_s g1 r)⟩
theorem s_dputR {D : Ends} (hd : σ[i]? = some (some (.ref d))) (hb : W.B d = none) (hh : W.H d = some (.dK ks)) (hl : ks.length < 100000) (hv : EvR pur K tv σ W x)
    (q : ∀ v W', Md [d] W W' → On W W' → W'.B d = none → W'.H d = some (.dK (putK ks (kS key) v)) → rep K W'.B v x → D.nx σ W'.H) : sDPut (tVar i) (tC (.str key)) tv D σ W.H := hv W (.start trivial) _ fun v W1 g1 rv => by
  have m := g1.pure.mut (by simp) hh hb
  exact ⟨_, hd, d, _, rfl, .inl ⟨ks, kS key, m.1, rfl, Evl.sz_lt hl, rfl⟩, q v (W1.put d _ m.2) ((Grow.s g1.pure).trans (md_put m.2)) (g1.on.trans (md_put m.2).on) m.2 upd_same rv⟩
theorem q_dputR {D : Ends} {tz : TS} (hd : σ[i]? = some (some (.ref d))) (hb : W.B d = none) (hh : W.H d = some (.dK ks)) (hl : ks.length < 100000) (hv : EvR pur K tv σ W x)
    (q : ∀ v W', Md [d] W W' → On W W' → W'.B d = none → W'.H d = some (.dK (putK ks (kS key) v)) → rep K W'.B v x → tz D σ W'.H) : tSeq (sDPut (tVar i) (tC (.str key)) tv) tz D σ W.H := s_dputR (D := { D with nx := tz D }) hd hb hh hl hv q
theorem cut_len {ns : List Int} {lo hi : Option Int} : (cutL ns lo hi).length ≤ ns.length := by
  unfold cutL
  rw [List.length_take, List.length_drop]
  omega
/-- a slice of the script -/
theorem ev_slS {a : Addr} {ns : List Int} {n : Int} (hv : σ[i]? = some (some (.ref a))) (h : SqL K W.B a (ns.map V.int)) : EvR pur K (tSl (rSlL K) (tVar i) tNoPart (tPart (tC (.int n)))) σ W (cutL ns none (some n)) := fun W1 g1 Q k =>
  ⟨_, hv, n, rfl, a, ns.map V.int, rfl, W1.sub.l ((exExt g1.md.b).l h), fun p hp => k _ (W1.add p _) (g1.rf.and (W1.grow_add hp)) ⟨p, _, rfl, upd_same, by
    have : cutV (ns.map V.int) none (some n) = (cutL ns none (some n)).map V.int := by
      unfold cutV cutL
      rw [List.length_map, List.map_take, List.map_drop]
    rw [this]
    exact int_reps _⟩⟩
end
def sp__law_begun (K : Fg) : Sp := fun vs H Q _ => ∃ (W : Wd) (a : Addr) (ns : List Int), W.H = H ∧ vs = [.ref a] ∧ SqL K W.B a (ns.map V.int) ∧ ns.length ≤ 63 ∧
  ∀ p W', Grow W W' → Sd K W' p → W.H p = none → Q (.ref p) W'.H
theorem len__law_begun {K : Fg} {vs : List V} {H : Hp} {Q : VK} {E : XK} (h : sp__law_begun K vs H Q E) : vs.length = ["_law_script"].length := by
  obtain ⟨W, a, ns, _, rfl, _⟩ := h
  rfl
/-- _law_begun: the slots 0 _law_script, 1 _law_cell -/
abbrev n__law_begun : List Str := ["_law_script", "_law_cell"]
def t__law_begun (K : Fg) : TS := (tRet (tDisp (((tC (.str "cells")), (tLc (iList K (tSl (rSlL K) (tVar 0) tNoPart (tPart (tC (.int 63))))) (gName 1) tYes (tCB rAbs (tCons (tVar 1) tNil)) [1])) :: (((tC (.str "at")), (tC (.int 0))) :: (((tC (.str "rest")), (tC (.int 0))) :: (((tC (.str "turn")), (tC (.int 0))) :: (((tC (.str "more")), (tOp oAdd (tC (.int 7)) (tCB (rLen K) (tCons (tVar 0) tNil)))) :: [])))))))
def sp__law_draw (K : Fg) : Sp := fun vs H Q _ => ∃ (W : Wd) (p : Addr) (n : Int), W.H = H ∧ vs = [.ref p, .int n] ∧ Sd K W p ∧ 0 < n ∧ n < 1073741824 ∧
  ∀ r W', 0 ≤ r → r < n → Md [p] W W' → Sd K W' p → Q (.int r) W'.H
theorem len__law_draw {K : Fg} {vs : List V} {H : Hp} {Q : VK} {E : XK} (h : sp__law_draw K vs H Q E) : vs.length = ["_law_state", "_law_many"].length := by
  obtain ⟨W, p, n, _, rfl, _⟩ := h
  rfl
/-- _law_draw: the slots 0 _law_state, 1 _law_many, 2 _law_cells, 3 _law_found, 4 _law_cell -/
abbrev n__law_draw : List Str := ["_law_state", "_law_many", "_law_cells", "_law_found", "_law_cell"]
def t__law_draw (K : Fg) : TS := (tSeq (tAsg (tDGet (tVar 0) (tC (.str "cells"))) (gName 2))
  (tSeq (tWhile (tAnd (tTest (tOp oLt (tDGet (tVar 0) (tC (.str "rest"))) (tC (.int 2)))) (tTest (tOp oLt (tDGet (tVar 0) (tC (.str "at"))) (tCB (rLen K) (tCons (tVar 2) tNil)))))
  (tSeq (tIfS (tTest (tOp oGe (tOp (rIxL K) (tVar 2) (tDGet (tVar 0) (tC (.str "at")))) (tOp oPow (tC (.int 10)) (tC (.int 18))))) (sDPut (tVar 0) (tC (.str "rest")) (tOp (rIxL K) (tVar 2) (tDGet (tVar 0) (tC (.str "at"))))) tNext)
  (sDPut (tVar 0) (tC (.str "at")) (tOp oAdd (tDGet (tVar 0) (tC (.str "at"))) (tC (.int 1))))))
  (tSeq (tIfS (tTest (tOp oGt (tDGet (tVar 0) (tC (.str "rest"))) (tC (.int 1)))) (tSeq (tAsg (tOp oMod (tDGet (tVar 0) (tC (.str "rest"))) (tVar 1)) (gName 3))
  (tSeq (sDPut (tVar 0) (tC (.str "rest")) (tOp oDiv (tDGet (tVar 0) (tC (.str "rest"))) (tVar 1)))
  (tRet (tVar 3)))) tNext)
  (tSeq (tAsg (tIf (tTest (tOp (rEqT K true) (tVar 2) (tLst tNil))) (tOp (rIxL K) (tVar 2) (tOp oMod (tDGet (tVar 0) (tC (.str "turn"))) (tCB (rLen K) (tCons (tVar 2) tNil)))) (tC (.int 0))) (gName 4))
  (tSeq (sDPut (tVar 0) (tC (.str "turn")) (tOp oAdd (tDGet (tVar 0) (tC (.str "turn"))) (tC (.int 1))))
  (tSeq (sDPut (tVar 0) (tC (.str "more")) (tOp oMod (tOp oAdd (tOp oAdd (tOp oMul (tDGet (tVar 0) (tC (.str "more"))) (tC (.int 48271))) (tVar 4)) (tDGet (tVar 0) (tC (.str "turn")))) (tC (.int 2147483647))))
  (tRet (tOp oMod (tOp oMod (tOp oAdd (tOp oMul (tDGet (tVar 0) (tC (.str "more"))) (tDGet (tVar 0) (tC (.str "more")))) (tOp oMul (tC (.int 16807)) (tDGet (tVar 0) (tC (.str "more"))))) (tC (.int 2147483629))) (tVar 1)))))))))
theorem ev_draw {K : Fg} {W : Wd} {σ : SS} {te : TE} {i : Nat} {p : Addr} {n : Int} (h1 : σ[i]? = some (some (.ref p))) (hn : EvR (drd K p) K te σ W n) (h0 : 0 < n) (h2 : n < 1073741824) :
    EvP (drd K p) (tCall (sp__law_draw K) [] E0 (tCons (tVar i) (tCons te tNil))) σ W (fun v _ => ∃ r, v = .int r ∧ 0 ≤ r ∧ r < n) := fun W1 g1 Q k =>
  ⟨_, h1, hn W1 g1 _ fun u W2 g2 r => ⟨W2, p, n, rfl, by rw [show u = _ from r]; rfl, (show Sd K W2 p from g2.i), h0, h2, fun r W3 a b g s => k _ W3 (g2.trans ⟨g, s⟩) ⟨r, rfl, a, b⟩⟩⟩
section
variable {K : Fg} {vs : List V} {H : Hp} {Q : VK} {E : XK}
theorem rd__law_begun (h : sp__law_begun K vs H Q E) : t__law_begun K { nx := fun _ H' => Q .non H', rt := Q } (start n__law_begun vs) H := by
  obtain ⟨W, a, ns, rfl, rfl, hs, hl, k⟩ := h
  show t__law_begun K _ [some (.ref a), none] W.H
  intro p hp
  have g0 : Grow W (W.put p (.dK []) (W.free hp)) := W.grow_put hp
  have b0 : (W.put p (.dK []) (W.free hp)).B p = none := W.free hp
  have h0 : (W.put p (.dK []) (W.free hp)).H p = some (.dK []) := upd_same
  generalize hW1 : W.put p (.dK []) (W.free hp) = W1 at g0 b0 h0
  have hH : upd W.H p (.dK []) = W1.H := by rw [← hW1]; rfl
  rw [hH]
  have hs1 : SqL K W1.B a (ns.map V.int) := (exExt g0.b).l hs
  have hcl : (cutL ns none (some 63)).length ≤ 63 := Nat.le_trans cut_len hl
  have hlc : EvR pur K (tLc (iList K (tSl (rSlL K) (tVar 0) tNoPart (tPart (tC (.int 63))))) (gName 1) tYes (tCB rAbs (tCons (tVar 1) tNil)) [1]) [some (.ref a), none] W1 ((cutL ns none (some 63)).map fun n : Int => if n < 0 then -n else n) :=
    ev_lcN (EvJ.i (ei_list (ev_slS rfl hs1))) (fun x v W' hx g r => ev_cb1 (ev_var rfl r) rc_abs) (by omega)
  have e : ∀ (tk tv : TE) (r : List (TE × TE)) (σ : SS) (H : Hp) (Q : List (V × V) → Hp → Prop), tPairs ((tk, tv) :: r) σ H Q = tk σ H fun x H1 => tv σ H1 fun y H2 => tPairs r σ H2 fun ps H3 => Q ((x, y) :: ps) H3 := fun _ _ _ _ _ _ => rfl
  have tc : ∀ (v : V) (σ : SS) (H : Hp) (Q : VK), tC v σ H Q = Q v H := fun _ _ _ _ => rfl
  rw [e, tc]
  refine hlc W1 (.start trivial) _ fun cv W2 g2 rc => ?_
  have m2 := g2.pure.mut (by simp) h0 b0
  have e0 : ∀ (σ : SS) (H : Hp) (Q : List (V × V) → Hp → Prop), tPairs [] σ H Q = Q [] H := fun _ _ _ => rfl
  rw [e, tc, tc, e, tc, tc, e, tc, tc, e, tc]
  refine ⟨_, rfl, a, ns.map V.int, rfl, .inl (W2.sub.l ((exExt g2.md.b).l hs1)), 7, _, rfl, rfl, m2.1, sk cv 0 0 0 (7 + (ns.map V.int).length), rfl, by show 5 ≤ 15; decide, ?_⟩
  rw [merge_sk]
  have gp : Grow W1 W2 := g2.pure
  refine k p (W2.put p _ m2.2) (Md.fresh (S := []) g0 ((Grow.s gp).trans (md_put m2.2)) hp) ⟨cv, (cutL ns none (some 63)).map (fun n : Int => if n < 0 then -n else n), 0, 0, 0, _, m2.2, upd_same, rc, by rw [List.length_map]; exact hcl, fun x hx => ?_, by decide, by decide, by decide, by omega⟩ hp
  obtain ⟨n, _, rfl⟩ := List.mem_map.mp hx
  split <;> omega
theorem rd__law_draw (h : sp__law_draw K vs H Q E) : t__law_draw K { nx := fun _ H' => Q .non H', rt := Q } (start n__law_draw vs) H := by
  obtain ⟨W, p, n, rfl, rfl, s, hn, hn2, k⟩ := h
  obtain ⟨cv, cs, a, r, t, m, s⟩ := s.ex
  show t__law_draw K _ [some (.ref p), some (.int n), none, none, none] W.H
  have sl : ∀ {a r t m : Int}, (sk cv a r t m).length < 100000 := fun {a r t m} => by show 5 < 100000; decide
  -- cells = state['cells']
  refine q_asg (ε := pur) (K := K) (x := cs) (ev_dgetR rfl s.b s.h v_cells s.c) trivial fun v2 W1 g1 rc => ?_
  have s1 := s.g g1.pure (by simp)
  have o1 : On W W1 := g1.on
  -- the while
  have cont : ∀ (a r t m : Int) (W2 : Wd), Md [p] W W2 → SdV K W2 p cv cs a r t m → rep K W2.B v2 cs → (tSeq (tIfS (tTest (tOp oGt (tDGet (tVar 0) (tC (.str "rest"))) (tC (.int 1)))) (tSeq (tAsg (tOp oMod (tDGet (tVar 0) (tC (.str "rest"))) (tVar 1)) (gName 3))
      (tSeq (sDPut (tVar 0) (tC (.str "rest")) (tOp oDiv (tDGet (tVar 0) (tC (.str "rest"))) (tVar 1)))
      (tRet (tVar 3)))) tNext)
      (tSeq (tAsg (tIf (tTest (tOp (rEqT K true) (tVar 2) (tLst tNil))) (tOp (rIxL K) (tVar 2) (tOp oMod (tDGet (tVar 0) (tC (.str "turn"))) (tCB (rLen K) (tCons (tVar 2) tNil)))) (tC (.int 0))) (gName 4))
      (tSeq (sDPut (tVar 0) (tC (.str "turn")) (tOp oAdd (tDGet (tVar 0) (tC (.str "turn"))) (tC (.int 1))))
      (tSeq (sDPut (tVar 0) (tC (.str "more")) (tOp oMod (tOp oAdd (tOp oAdd (tOp oMul (tDGet (tVar 0) (tC (.str "more"))) (tC (.int 48271))) (tVar 4)) (tDGet (tVar 0) (tC (.str "turn")))) (tC (.int 2147483647))))
      (tRet (tOp oMod (tOp oMod (tOp oAdd (tOp oMul (tDGet (tVar 0) (tC (.str "more"))) (tDGet (tVar 0) (tC (.str "more")))) (tOp oMul (tC (.int 16807)) (tDGet (tVar 0) (tC (.str "more"))))) (tC (.int 2147483629))) (tVar 1))))))) { nx := fun _ H' => Q .non H', rt := Q } [some (.ref p), some (.int n), some v2, none, none] W2.H := fun a r t m W2 g2 s2 rc2 => by
    have vn : ∀ {W : Wd}, rep K W.B (V.int n) n := rfl
    refine q_when (ε := pur) (et_test (ev_op (ev_dgetR rfl s2.b s2.h v_rest (show rep K W2.B (.int r) r from rfl)) ev_int ro_B0)) trivial (fun hb W3 g3 => ?_) (fun hb W3 g3 => ?_)
    · have s3 := s2.g g3.pure (by simp)
      refine q_asg (ε := pur) (K := K) (x := r % n) (ev_op (ev_dgetR rfl s3.b s3.h v_rest (show rep K W3.B (.int r) r from rfl)) (ev_var rfl vn) (ro_I hn)) trivial fun v3 W4 g4 r4 => ?_
      have s4 := s3.g g4.pure (by simp)
      refine q_dputR (K := K) (x := r / n) rfl s4.b s4.h sl (ev_op (ev_dgetR rfl s4.b s4.h v_rest (show rep K W4.B (.int r) r from rfl)) (ev_var rfl vn) (ro_I ⟨hn, hn2⟩)) fun v5 W5 g5 o5 b5 h5 r5 => ?_
      rw [show v5 = _ from r5, p_rest] at h5
      refine s_ret (ε := pur) (K := K) (x := r % n) (ev_var rfl (rep_on o5 r4)) trivial fun u W6 g6 r6 => ?_
      rw [show u = _ from r6]
      refine k _ W6 (Int.emod_nonneg _ (by omega)) (Int.emod_lt_of_pos _ hn) (((g2.trans (Grow.s (g3.pure.trans g4.pure))).trans g5).trans (Grow.s g6.pure)) ?_
      exact Sd.g ⟨cv, cs, a, r / n, t, m, b5, h5, rep_on o5 s4.c, s2.l, s2.pos, s2.a0, Int.ediv_nonneg s2.r0 (by omega), s2.t0, s2.m0⟩ g6.pure
    · have s3 := s2.g g3.pure (by simp)
      have rc3 := rep_s g3 rc2
      -- cell
      have hcell : ∃ x : Int, 0 ≤ x ∧ EvR pur K (tIf (tTest (tOp (rEqT K true) (tVar 2) (tLst tNil))) (tOp (rIxL K) (tVar 2) (tOp oMod (tDGet (tVar 0) (tC (.str "turn"))) (tCB (rLen K) (tCons (tVar 2) tNil)))) (tC (.int 0))) [some (.ref p), some (.int n), some v2, none, none] W3 x := by
        by_cases hcs : cs = []
        · refine ⟨0, Int.le_refl _, ?_⟩
          refine (ev_if (K := K) (b := false) (x := (0 : Int)) (x' := (0 : Int)) ((et_test (ev_op (ev_var rfl rc3) (ev_lst ea_nil (by decide)) (ro_neT (by decide)))).is ?_) (fun z => by cases z) (fun _ => ev_int)).is rfl
          rw [hcs]
          rfl
        · have hlen : 0 < cs.length := List.length_pos_iff.mpr hcs
          have e1 := Int.emod_nonneg t (show (cs.length : Int) ≠ 0 by omega)
          have e2 := Int.emod_lt_of_pos t (show (0 : Int) < (cs.length : Int) by omega)
          obtain ⟨j, hj, hj2⟩ : ∃ j : Nat, t % (cs.length : Int) = (j : Int) ∧ j < cs.length := ⟨(t % (cs.length : Int)).toNat, by omega, by omega⟩
          refine ⟨cs[j], s2.pos _ (List.getElem_mem _), ?_⟩
          refine (ev_if (K := K) (b := true) (x := cs[j]) (x' := (0 : Int)) ((et_test (ev_op (ev_var rfl rc3) (ev_lst ea_nil (by decide)) (ro_neT (by decide)))).is ?_) (fun _ => ev_op (ev_var rfl rc3) (ev_op (ev_dgetR rfl s3.b s3.h v_turn (show rep K W3.B (.int t) t from rfl)) (ev_cb1 (ev_var rfl rc3) rc_len) (ro_I (by show (0 : Int) < (cs.length : Int); omega))) (ro_ixL ?_)) (fun z => by cases z)).is rfl
          · simp [hcs]
          · rw [hj]; exact atI_nat (by simp [hj2])
      obtain ⟨x, hx0, hx⟩ := hcell
      refine q_asg (ε := pur) (K := K) (x := x) hx trivial fun v4 W4 g4 r4 => ?_
      have s4 := s3.g g4.pure (by simp)
      refine q_dputR (K := K) (x := t + 1) rfl s4.b s4.h sl (ev_op (ev_dgetR rfl s4.b s4.h v_turn (show rep K W4.B (.int t) t from rfl)) ev_int ro_I0) fun v5 W5 g5 o5 b5 h5 r5 => ?_
      rw [show v5 = _ from r5, p_turn] at h5
      have m0 := Int.emod_nonneg (m * 48271 + x + (t + 1)) (show (2147483647 : Int) ≠ 0 by decide)
      refine q_dputR (K := K) (x := (m * 48271 + x + (t + 1)) % 2147483647) rfl b5 h5 sl (ev_op (ev_op (ev_op (ev_op (ev_dgetR rfl b5 h5 v_more (show rep K W5.B (.int m) m from rfl)) ev_int (ro_I (.inr ⟨by decide, by decide⟩))) (ev_var rfl (rep_on o5 r4)) ro_I0) (ev_dgetR rfl b5 h5 v_turn (show rep K W5.B (.int (t + 1)) (t + 1) from rfl)) ro_I0) ev_int (ro_I (by decide))) fun v6 W6 g6 o6 b6 h6 r6 => ?_
      rw [show v6 = _ from r6, p_more] at h6
      have vm : ∀ {W : Wd}, rep K W.B (V.int ((m * 48271 + x + (t + 1)) % 2147483647)) ((m * 48271 + x + (t + 1)) % 2147483647) := rfl
      have ml := Int.emod_lt_of_pos (m * 48271 + x + (t + 1)) (show (0 : Int) < 2147483647 by decide)
      refine s_ret (ε := pur) (K := K) (x := (((m * 48271 + x + (t + 1)) % 2147483647) * ((m * 48271 + x + (t + 1)) % 2147483647) + 16807 * ((m * 48271 + x + (t + 1)) % 2147483647)) % 2147483629 % n) (ev_op (ev_op (ev_op (ev_op (ev_dgetR rfl b6 h6 v_more vm) (ev_dgetR rfl b6 h6 v_more vm) (ro_I (.inl ⟨by omega, by omega⟩))) (ev_op ev_int (ev_dgetR rfl b6 h6 v_more vm) (ro_I (.inl ⟨by decide, by decide⟩))) ro_I0) ev_int (ro_I (by decide))) (ev_var rfl vn) (ro_I hn)) trivial fun u W7 g7 r7 => ?_
      rw [show u = _ from r7]
      refine k _ W7 (Int.emod_nonneg _ (by omega)) (Int.emod_lt_of_pos _ hn) ((((g2.trans (Grow.s (g3.pure.trans g4.pure))).trans g5).trans g6).trans (Grow.s g7.pure)) ?_
      exact Sd.g ⟨cv, cs, a, r, t + 1, _, b6, h6, rep_on o6 (rep_on o5 s4.c), s2.l, s2.pos, s2.a0, s2.r0, by have := s2.t0; omega, m0⟩ g7.pure
  refine s_while (ε := pur) (fun m' σ' W' => ∃ a r, σ' = [some (.ref p), some (.int n), some v2, none, none] ∧ Md [p] W W' ∧ SdV K W' p cv cs a r t m ∧ rep K W'.B v2 cs ∧ m' = ((cs.length : Int) - a).toNat) _ ⟨a, r, rfl, Grow.s g1.pure, s1, rc, rfl⟩ ?_
  rintro m' σ' W2 ⟨a, r, rfl, g2, s2, rc2, rfl⟩
  refine ⟨trivial, _, et_and (et_test (ev_op (ev_dgetR rfl s2.b s2.h v_rest (show rep K W2.B (.int r) r from rfl)) ev_int ro_B0)) (fun _ => et_test (ev_op (ev_dgetR rfl s2.b s2.h v_at (show rep K W2.B (.int a) a from rfl)) (ev_cb1 (ev_var rfl rc2) rc_len) ro_B0)), fun hb W3 g3 => ?_, fun hb W3 g3 => cont a r t m W3 (g2.trans (Grow.s g3.pure)) (s2.g g3.pure (by simp)) (rep_s g3 rc2)⟩
  have hb' : decide (a < (cs.length : Int)) = true := (Bool.and_eq_true_iff.mp hb).2
  have ha : a < (cs.length : Int) := of_decide_eq_true hb'
  have a0 := s2.a0
  obtain ⟨j, hj, hj2⟩ : ∃ j : Nat, a = (j : Int) ∧ j < cs.length := ⟨a.toNat, by omega, by omega⟩
  have s3 := s2.g g3.pure (by simp)
  have rc3 := rep_s g3 rc2
  have hcell : ∀ {W : Wd}, On W3 W → SdV K W p cv cs a r t m → EvR pur K (tOp (rIxL K) (tVar 2) (tDGet (tVar 0) (tC (.str "at")))) [some (.ref p), some (.int n), some v2, none, none] W cs[j] := fun {W} o s => ev_op (ev_var rfl (rep_on o rc3)) (ev_dgetR rfl s.b s.h v_at (show rep K W.B (.int a) a from rfl)) (ro_ixL (by rw [hj]; exact atI_nat (by simp [hj2])))
  have put : ∀ (D : Ends) (r : Int) (W4 : Wd), Md [p] W3 W4 → SdV K W4 p cv cs a r t m → (∀ W5, Md [p] W W5 → SdV K W5 p cv cs (a + 1) r t m → rep K W5.B v2 cs → D.nx [some (.ref p), some (.int n), some v2, none, none] W5.H) →
      sDPut (tVar 0) (tC (.str "at")) (tOp oAdd (tDGet (tVar 0) (tC (.str "at"))) (tC (.int 1))) D [some (.ref p), some (.int n), some v2, none, none] W4.H := fun D r W4 g4 s4 kk => by
    refine s_dputR (K := K) (x := a + 1) rfl s4.b s4.h sl (ev_op (ev_dgetR rfl s4.b s4.h v_at (show rep K W4.B (.int a) a from rfl)) ev_int ro_I0) fun v5 W5 g5 o5 b5 h5 r5 => ?_
    rw [show v5 = _ from r5, p_at] at h5
    exact kk W5 (((g2.trans (Grow.s g3.pure)).trans g4).trans g5) ⟨b5, h5, rep_on o5 s4.c, s4.l, s4.pos, by omega, s4.r0, s4.t0, s4.m0⟩ (rep_on o5 (rep_on g4.on rc3))
  refine q_when (ε := pur) (et_test (ev_op (hcell (.refl _) s3) (ev_op (x := (10 : Int)) (y := (18 : Int)) ev_int ev_int (ro_I (by exact ⟨by decide, by decide, by decide⟩))) ro_B0)) trivial (fun _ W4 g4 => ?_) (fun _ W4 g4 => put _ r W4 (Grow.s g4.pure) (s3.g g4.pure (by simp)) fun W5 g s rc => ⟨_, W5, by omega, rfl, a + 1, r, rfl, g, s, rc, rfl⟩)
  have s4 := s3.g g4.pure (by simp)
  refine s_dputR (K := K) (x := cs[j]) rfl s4.b s4.h sl (hcell g4.on s4) fun v5 W5 g5 o5 b5 h5 r5 => ?_
  rw [show v5 = _ from r5, p_rest] at h5
  exact put _ cs[j] W5 ((Grow.s g4.pure).trans g5) ⟨b5, h5, rep_on o5 s4.c, s4.l, s4.pos, s4.a0, s2.pos _ (List.getElem_mem _), s4.t0, s4.m0⟩ fun W6 g s rc => ⟨_, W6, by omega, rfl, a + 1, cs[j], rfl, g, s, rc, rfl⟩
end
end B
/-! LM: a lambda handed to a def, with all told that its making changes -/
namespace LM
open PySem PySem.Spec PyProof.Rows L2 LamX
/-- a lambda was made: nothing has changed, or one code object more stands in the table at P -/
def LamStep (P : Addr) (q : Str) (H H1 : Hp) : Prop := H1 = H ∨ ∃ (ps : Array Value) (pos : Pos) (c : Addr), H P = some (.tbl ps) ∧ H c = none ∧ H1 = upd (upd H P (.tbl (ps ++ #[rawInt pos.line, rawInt pos.col, .ref c]))) c (CodeO c q)
section
variable {X : Cx} {pins : List (Addr × Obj)} {σ : L2.St} {H : Hp} {s : Shared}
theorem lam_made {c P : Addr} {params : Arguments} {body : Expr} {scope : Scope} {pos : Pos} {E : Value → Shared → Prop} {Q : Value → Shared → Prop} (J : Inv X pins σ H s) (B : TabB X.base X.mg c P) (ec : X.env.code = .ref c) (T : TabS H P (X.env.qual ++ "<lambda>"))
    (ed : defaultsOf params X.env = ([], [])) (fr : ∀ y ∈ scope.names, y.2 = .free → ∃ c, X.env.cells.lookup y.1 = some c)
    (k : ∀ (f d : Addr) (pm ct : Value) (H1 : Hp) (z : Shared), Inv X pins σ H1 z → LamStep P (X.env.qual ++ "<lambda>") H H1 → z.heap.get? f = some (PySem.W.kla_obj "<lambda>" (X.env.qual ++ "<lambda>") params body scope (cloFrom X.env.cells scope.names []) pm d ct) →
      H1 f = none → f ∉ frs X.stack → H1 d = some (CodeO d (X.env.qual ++ "<lambda>")) → Q (.ref f) z) : wpAny (model X.prog X.w) X.A (eval (.Lambda params body scope pos) X.env) Q E s := by
  obtain ⟨ps, eP, ok, all⟩ := T
  have gP : s.heap.get? P = some { cls := .none, data := .fields ps } := J.hok P _ eP
  have bt : s.heap.BuiltinsAt X.mg P := B.bm.keeps J.bk
  have out : ∀ f, s.heap.objs.size ≤ f → f ∉ frs X.stack := fun f hf z => (List.mem_cons.mp (J.stkSub _ z)).elim (fun e => by
    have := J.lt
    rw [← e] at this
    exact absurd this (Nat.not_lt.mpr hf)) fun e => J.nofs hf e
  refine PySem.W.kla_eval ed ?_
  cases ecd : codeAmong pos ps.toList with
  | some v =>
    obtain ⟨d, rfl, ho⟩ := all pos v ecd
    refine PySem.W.kla_makeFunctionHit (mg := X.mg) (c := c) (P := P) (ps := ps) (closure_ok fr) J.ok.glob (J.mod.glob.keeps J.bk) ec (B.code.keeps J.bk) gP ok ecd bt fun ct h2 tk hx sz => ?_
    exact k h2.objs.size d _ ct H _ (J.kept fun b o e => Heap.get?_push_of_some _ (hx b o e)) (.inl rfl) (Heap.get?_push_size _ rfl) (J.hok.fresh sz) (out _ sz) ho
  | none =>
    refine PySem.W.kla_makeFunction (mg := X.mg) (c := c) (P := P) (ps := ps) (closure_ok fr) J.ok.glob (J.mod.glob.keeps J.bk) ec (B.code.keeps J.bk) gP ok ecd B.gP bt fun d ct h2 tk hx ge lt rec tb => ?_
    obtain ⟨d', oc, vs, t, ed', hoc, hd, hv⟩ := rec
    cases ed'
    have nd : H d = none := J.hok.fresh ge
    have sz : s.heap.objs.size ≤ h2.objs.size := Nat.le_trans ge (Nat.le_of_lt lt)
    have J2 := inv_table (t' := tk) (more := #[rawInt pos.line, rawInt pos.col, .ref d]) (h' := h2.push (PySem.W.kla_obj "<lambda>" (X.env.qual ++ "<lambda>") params body scope (cloFrom X.env.cells scope.names []) ((X.mg "__name__").getD .none) d ct)) J eP
      (fun b o hb e => Heap.get?_push_of_some _ (hx b o hb e)) (Heap.get?_push_of_some _ tb) ge ⟨oc, vs, t, Heap.get?_push_of_some _ hoc, hd, hv⟩
    have n1 : h2.objs.size ≠ d := Nat.ne_of_gt lt
    have n2 : h2.objs.size ≠ P := fun z => by
      have := Heap.lt_size gP
      rw [← z] at this
      exact absurd this (Nat.not_lt.mpr sz)
    exact k h2.objs.size d _ ct _ _ J2 (.inr ⟨ps, pos, d, eP, nd, rfl⟩) (Heap.get?_push_size _ rfl) (by rw [upd_ne n1, upd_ne n2]; exact J.hok.fresh sz) (out _ sz) upd_same
end
section
variable {X : Cx} {pins : List (Addr × Obj)} {σ : L2.St} {H HZ : Hp} {s s1 : Shared}
/-- x() in the def that got the lambda; what it lets out is told by the slots -/
theorem pe_actS {CXg : CXT} {Eg : XK} {Ng : List Str} {qg : Str} {sg : Scope} {g f d : Addr} {cdg pm ctv : Value} {params : Arguments} {body : Expr} {scope : Scope} {k i : Nat} {a : Str} {pn : List (Addr × Obj)} {xe : Value → Shared → Prop} {W : WX} {tb : XK → TE} {p1 p2 : Pos}
    (J : Inv X pins σ H s) (L : LamS X.env.scope scope) (ef : s.heap.get? f = some (PySem.W.kla_obj "<lambda>" (X.env.qual ++ "<lambda>") params body scope (cloFrom X.env.cells scope.names []) pm d ctv)) (fn : H f = none) (ff : f ∉ frs X.stack)
    (eb : bindArgs (PySem.W.kla_fn "<lambda>" (X.env.qual ++ "<lambda>") params body scope (cloFrom X.env.cells scope.names []) pm (.ref d) ctv) ⟨[], []⟩ = pure [])
    (tk : Takes ((cxOf CXg X.prog X.w X.K X.mg X.base Ng qg sg g cdg X.A X.stack s H Eg).tr pn xe) W) (hr : Room (k + 1) (X.A.deeper (envOfC qg sg s.heap.objs.size g cdg)))
    (hbody : ∀ (A : Around) (outer : List Env) (s : Shared) (H : Hp) (E : XK), Room k (A.deeper (lamEnv X scope s.heap.objs.size f d)) → PE (lamCx X A outer s H E scope f d) body (tb E))
    (hN : Ng[i]? = some a) (hv : Vis sg a) (hd : (a == ("__debug__" : Str)) = false := by decide) (hcd : (a == ("__classdict__" : Str)) = false := by decide) :
    PE ((cxOf CXg X.prog X.w X.K X.mg X.base Ng qg sg g cdg X.A X.stack s H Eg).tr pn xe) (.Call (.Name a p1) [] [] p2) (fun σZ HZ Q => σZ[i]? = some (some (.ref f)) ∧ HZ d = some (CodeO d (X.env.qual ++ "<lambda>")) ∧ tb (WE W σZ) σ HZ Q) := by
  refine ⟨fun pz sZ σZ HZ Q IZ ⟨h1, h2, h3⟩ => wpAny_Call_Name_kw (thn ((pe_var (pos := p1) (i := i) hN hv hd hcd).run pz sZ σZ HZ (fun v H1 => v = .ref f ∧ H1 = HZ) IZ ⟨.ref f, h1, rfl, rfl⟩) fun u s1 ⟨v, H1, I1, r1, ev, eH⟩ => ?_)⟩
  subst ev
  rw [eH] at I1
  obtain rfl : u = Value.ref f := r1
  have un : Un (frs X.stack) [] H HZ s.heap s1.heap := I1.base
  have at1 := un.keep f _ ef fn ff (fun z => nomatch (show f ∈ ([] : List Addr) from z))
  obtain ⟨⟨oc, vs, t, hoc, hdc, hvc⟩, _, _⟩ := I1.hok d _ h2
  refine PySem.W.callWith_F0 ⟨_, _, _, _, at1⟩ (wpAny_call (codeAny_mono (show codeAny (model X.prog X.w) (X.A.deeper (envOfC qg sg s.heap.objs.size g cdg)) (.call (.ref f) ⟨[], []⟩) (CR (L2.CX X.prog X.w) (envOfC qg sg s.heap.objs.size g cdg :: X.stack) X.prog X.w HZ s1 Q (WE W σZ)) s1 from ?_) fun r z e => ?_))
  · refine PySem.W.kla_callFunE hr.depth at1 rfl L.co L.gen rfl ⟨d, oc, vs, t, rfl, hoc, hdc, hvc⟩ ?_
    rw [eb]
    refine wpAny_pure (wpAny_newFunctionEnv (fun y hy => (L.own y hy).2) (fun y hy => absurd hy (by simp)) (fun h₁ hns hsb => ⟨I1.nolimit.fresh _ hsb, ?_⟩) L.kind)
    show codeAny _ _ (.expr body (lamEnv X scope s1.heap.objs.size f d)) _ _
    have up : ∀ b o, s1.heap.get? b = some o → h₁.get? b = some o := fun b o e => hsb.extBut b o (Nat.ne_of_lt (Heap.lt_size e)) (Heap.get?_push_of_some _ e)
    have K2 : Inv (lamCx X (X.A.deeper (envOfC qg sg s.heap.objs.size g cdg)) (envOfC qg sg s.heap.objs.size g cdg :: X.stack) s1 HZ (WE W σZ) scope f d) [] σ HZ { s1 with heap := h₁, toks := s1.toks + ([] : List (Str × Value)).length } := lam_start2 J L I1.env0 hr.hd un hns up
    exact PySem.W.kla_codeExpr (wpAny_mono ((hbody _ _ s1 HZ (WE W σZ) (hr.deeper _)).run [] _ _ HZ Q K2 h3) (fun v z ⟨w, H2, J2, rv, q⟩ => ⟨w, H2, J2.os, J2.bare, J2.base, J2.hok, rv, q⟩) fun e z q => q)
  · cases r with
    | error y => exact (passAt (X := (cxOf CXg X.prog X.w X.K X.mg X.base Ng qg sg g cdg X.A X.stack s H Eg).tr pn xe) tk σZ) pz HZ s1 y z I1 e
    | ok fl => cases fl <;> first | exact I1.after e | exact e.elim
end
/-- the def that calls what it got -/
def Gives (X : Cx) (Ng : List Str) (x : Str) (sg : Scope) (g : Addr) (cdg : Value) (bg : List Stmt) (a : Str) (q : Str) (k : Nat) (TT : (XK → Hp → VK → Prop) → Hp → VK → Prop) : Prop :=
  ∀ (f d : Addr) (s : Shared) (H : Hp) (Q : VK) (tl : XK → Hp → VK → Prop), Room k (X.A.deeper (envOfC x sg s.heap.objs.size g cdg)) →
    (∀ (W : WX) (pn : List (Addr × Obj)) (xe : Value → Shared → Prop) (p1 p2 : Pos), Takes ((cxOf C8.CX0 X.prog X.w X.K X.mg X.base Ng x sg g cdg X.A X.stack s H C8.E0).tr pn xe) W →
      PE ((cxOf C8.CX0 X.prog X.w X.K X.mg X.base Ng x sg g cdg X.A X.stack s H C8.E0).tr pn xe) (.Call (.Name a p1) [] [] p2) (fun σZ HZ Q => σZ[0]? = some (some (.ref f)) ∧ HZ d = some (CodeO d q) ∧ tl (WE W σZ) HZ Q)) →
    H d = some (CodeO d q) → TT tl H Q → ∃ t, PSs (cxOf C8.CX0 X.prog X.w X.K X.mg X.base Ng x sg g cdg X.A X.stack s H C8.E0).nox bg t ∧ t { nx := fun _ H' => Q .non H', rt := Q } (L2.start Ng [.ref f]) H
/-- x(lambda: ..) -/
def tLm (P : Addr) (q : Str) (TT : (XK → Hp → VK → Prop) → Hp → VK → Prop) (t : XK → TE) : TE := fun σ H Q => TabS H P q ∧ ∀ H1, LamStep P q H H1 → TT (fun E H' Q' => t E σ H' Q') H1 Q
theorem pe_lm {X : Cx} {TT : (XK → Hp → VK → Prop) → Hp → VK → Prop} {x a : Str} {g c P : Addr} {k : Nat} {pg : Arguments} {bg : List Stmt} {sg : Scope} {dV kV doc pm cdv ct oc : Value} {an od : Option Addr} {osl : Array (Option Value)} {Ng : List Str}
    {params : Arguments} {body : Expr} {scope : Scope} {t : XK → TE} {p lpos pos : Pos} (hg : Gl X x) (hm : X.mg x = some (.ref g)) (hk : PySem.W.keepIn X.K (.ref g) = true) (lk : X.K.lookup g = some ⟨oc, od, .func (PySem.W.fnOf x x pg bg sg dV kV doc pm an cdv ct), osl⟩)
    (hcg : PySem.W.codeIn X.K cdv x = true) (hb : L2.Binds X.K (PySem.W.fnOf x x pg bg sg dV kV doc pm an cdv ct) [a] []) (Sg : FnScope Ng [a] sg) (hNg : Ng[0]? = some a) (hva : Vis sg a) (hG : Gives X Ng x sg g cdv bg a (X.env.qual ++ "<lambda>") (k + 1) TT)
    (B : TabB X.base X.mg c P) (ec : X.env.code = .ref c) (hr : Room (k + 2) X.A) (L : LamS X.env.scope scope) (ed : defaultsOf params X.env = ([], [])) (eb : ∀ (q : Str) (cl : List (Str × Addr)) (pm cv ctv : Value), bindArgs (PySem.W.kla_fn "<lambda>" q params body scope cl pm cv ctv) ⟨[], []⟩ = pure [])
    (hbody : ∀ (A : Around) (outer : List Env) (s : Shared) (H : Hp) (E : XK) (f d : Addr), Room k (A.deeper (lamEnv X scope s.heap.objs.size f d)) → PE (lamCx X A outer s H E scope f d) body (t E))
    (hdb : (x == ("__debug__" : Str)) = false := by decide) (hd : (a == ("__debug__" : Str)) = false := by decide) (hcd : (a == ("__classdict__" : Str)) = false := by decide) :
    PE X (.Call (.Name x p) [.Lambda params body scope lpos] [] pos) (tLm P (X.env.qual ++ "<lambda>") TT t) := by
  refine ⟨fun pins s σ H Q J ⟨hT, h⟩ => wpAny_Call_Name_kw (ld_glob J hg hm (PySem.W.callWith_K (h₀ := X.base) J.ok.mod.kin hk ?_ (by rfl) (by rfl)) hdb)⟩
  show wpAny _ _ (spliced ((false, eval (.Lambda params body scope lpos) X.env) :: backTo pos (starEach [] X.env))) _ _ s
  refine Calls.spliced_cons (lam_made J B ec hT ed (L.has J.ok) fun f d pm' ctv H1 z J1 st hf hn ho hc => Calls.spliced_nil ⟨J1.kIn, ?_⟩)
  have run : codeAny (model X.prog X.w) X.A (.call (.ref g) ⟨[.ref f], []⟩) (CR C8.CX0 X.stack X.prog X.w H1 z Q C8.E0) z := by
    refine run_ofS (N := Ng) (ps := [a]) (us := [.ref f]) (vs := [.ref f]) lk hcg Sg hr J1.env0 (hb z [.ref f] J1.kIn rfl) (.cons rfl .nil) rfl fun hr' => ?_
    obtain ⟨u, hu, q⟩ := hG f d z H1 Q (fun E H' Q' => t E σ H' Q') hr' (fun W pn xe p1 p2 tk => pe_actS (i := 0) (tb := t) J1 L hf hn ho (eb _ _ _ _ _) tk hr' (fun A outer s H E r2 => hbody A outer s H E f d r2) hNg hva hd hcd) hc (h H1 st)
    exact ⟨u, hu.nox, q⟩
  refine wpAny_call (codeAny_mono run fun r z2 e => ?_)
  cases r with
  | error y => exact (show False from e).elim
  | ok fl =>
    cases fl with
    | ret u => exact J1.after e
    | next => exact e.elim
    | brk => exact e.elim
    | cont => exact e.elim
/-- what is raised in a lambda's body goes to whoever called it -/
theorem lam_pass {X : Cx} {A : Around} {outer : List Env} {s : Shared} {H : Hp} {E : XK} {scope : Scope} {f d : Addr} : Passes (L2.CX X.prog X.w) (lamCx X A outer s H E scope f d) E :=
  passes_call (X := lamCx X A outer s H E scope f d) (W := fun cls d _ H => E cls d H) (takes_of (X := lamCx X A outer s H E scope f d) (E := E) rfl rfl rfl rfl) fun _ _ _ _ h => h
end LM
/-! B: tables of lambdas' code objects; what is refused, by a lambda; the top with tables -/
namespace B
open PySem PySem.Spec PyProof.Rows L2 LamX LM
open PySem.W (Tup T3 T4 Datum DatumOrd)
open Evl (Ex)
/-- the table of a def's lambdas stands at P -/
structure TabAt (W : Wd) (P : Addr) (q : Str) : Prop where
  b : W.B P = none
  ex : ∃ ps : Array Value, W.H P = some (.tbl ps) ∧ TriplesOk ps.toList ∧ ∀ (pos : Pos) (cv : Value), codeAmong pos ps.toList = some cv → ∃ c, cv = .ref c ∧ W.B c = some (CodeO c q) ∧ W.H c = some (CodeO c q)
section
variable {W W' : Wd} {P : Addr} {q : Str} {S : List Addr} {H1 : Hp}
theorem TabAt.nt (t : TabAt W P q) : Nt W.H P := by
  obtain ⟨ps, e, _⟩ := t.ex
  exact ⟨_, e, fun _ z => by cases z⟩
theorem TabAt.g (t : TabAt W P q) (g : Md S W W') (h : P ∉ S) : TabAt W' P q := by
  obtain ⟨ps, e, ok, all⟩ := t.ex
  have m := g.mut h e t.b
  exact ⟨m.2, ps, m.1, ok, fun pos cv hc => by
    obtain ⟨c, e1, e2, e3⟩ := all pos cv hc
    exact ⟨c, e1, g.b _ _ e2, g.l _ _ e2 e3⟩⟩
theorem TabAt.gr (t : TabAt W P q) (g : Grow W W') : TabAt W' P q := t.g g (by simp)
theorem TabAt.ts (t : TabAt W P q) : TabS W.H P q := by
  obtain ⟨ps, e, ok, all⟩ := t.ex
  exact ⟨ps, e, ok, fun pos cv hc => by
    obtain ⟨c, e1, _, e3⟩ := all pos cv hc
    exact ⟨c, e1, e3⟩⟩
theorem TabAt.step (t : TabAt W P q) (st : LamStep P q W.H H1) : ∃ W1 : Wd, W1.H = H1 ∧ Md [P] W W1 ∧ TabAt W1 P q := by
  rcases st with rfl | ⟨ps, pos, c, e, nc, rfl⟩
  · exact ⟨W, rfl, .refl _ _, t⟩
  · obtain ⟨ps', e', ok, all⟩ := t.ex
    rw [e] at e'
    cases e'
    let W1 := W.put P (.tbl (ps ++ #[rawInt pos.line, rawInt pos.col, .ref c])) t.b
    have m1 : Md [P] W W1 := md_put t.b
    have cP : c ≠ P := fun z => by rw [z, e] at nc; cases nc
    have nc1 : W1.H c = none := (upd_ne cP).trans nc
    have g2 : Grow W1 (W1.add c (CodeO c q)) := W1.grow_add nc1
    refine ⟨W1.add c (CodeO c q), rfl, m1.trans (Grow.s g2), ?_, _, (upd_ne cP.symm).trans upd_same, by
      rw [show (ps ++ #[rawInt pos.line, rawInt pos.col, .ref c]).toList = ps.toList ++ [rawInt pos.line, rawInt pos.col, .ref c] by simp]
      exact PySem.TriplesOk_snoc _ _ _ _ ok, fun p v hv => ?_⟩
    · show upd W1.B c _ P = none
      rw [upd_ne cP.symm]
      exact t.b
    · rw [show (ps ++ #[rawInt pos.line, rawInt pos.col, .ref c]).toList = ps.toList ++ [rawInt pos.line, rawInt pos.col, .ref c] by simp] at hv
      rcases among_app _ ok hv with z | z
      · obtain ⟨d, e1, e2, e3⟩ := all p v z
        have g := m1.trans (Grow.s (S := [P]) g2)
        exact ⟨d, e1, g.b _ _ e2, g.l _ _ e2 e3⟩
      · exact ⟨c, z, upd_same, upd_same⟩
end
/-- the effect of making lambdas -/
def lamE (P : Addr) (q : Str) : Ef := ⟨[P], fun W => TabAt W P q, fun W a s h => by
    rw [show a = P by simpa using h]
    exact s.nt,
  fun W W' b h s => by
    obtain ⟨h1, h2⟩ := h P (by simp) s.nt
    obtain ⟨ps, e, ok, all⟩ := s.ex
    refine ⟨h2.trans s.b, ps, h1.trans e, ok, fun pos cv hc => ?_⟩
    obtain ⟨c, e1, e2, e3⟩ := all pos cv hc
    have e4 := b _ _ e2
    refine ⟨c, e1, e4, ?_⟩
    rcases W'.sub c _ e4 with z | ⟨⟨kv, z⟩, _⟩
    · exact z
    · unfold CodeO at z; cases z⟩
/-- the body of a def that calls what it got, catches and tells by a word -/
abbrev tRef (K : Fg) (CL : Addr) (sw : Sp) (act : WX → TE) : TS :=
  tSeq (tAsg (tC .non) (gName 1)) (tSeq (fun D σ H => tDrop (act (BX.wAsK K (.ref CL) 2 (fun _ _ _ => tAsg (tVar 2) (gName 1)) (fun _ _ _ _ => False) D)) D σ H) (tRet (tCall sw [] E0 (tCons (tVar 1) tNil))))
def TTref (K : Fg) (CL : Addr) (sw : Sp) : (XK → Hp → VK → Prop) → Hp → VK → Prop := fun tl H Q =>
  ∀ f : Addr, tRef K CL sw (fun W σ H Q => tl (WE W σ) H Q) { nx := fun _ H' => Q .non H', rt := Q } [some (.ref f), none, none] H
section
variable {K : Fg} {CL C P : Addr} {sw : Sp} {t : XK → TE} {σ : SS} {W : Wd} {q : Str} {w : Str}
/-- what is refused is told by its word -/
theorem ev_refused (hx : PySem.W.exmOne K (.ref C) (.ref CL) = some true) (hw : ∀ (W : Wd) (a : Addr), W.H a = some (BX.ExK (.ref C) none a) → ∀ Q : VK, (∀ W', Grow W W' → Q (.str w) W'.H) → sw [.ref a] W.H Q E0)
    (hb : ∀ W1, Md [P] W W1 → ∀ (E : XK) (Q : VK), (∀ W2, Grow W1 W2 → E (.ref C) none W2.H) → t E σ W1.H Q) : EvR (lamE P q) K (tLm P q (TTref K CL sw) t) σ W w := fun W1 g1 Q k => by
  have t1 : TabAt W1 P q := g1.i
  refine ⟨t1.ts, fun H1 st => ?_⟩
  obtain ⟨W2, rfl, m2, t2⟩ := t1.step st
  refine fun f => hb W2 (g1.md.trans m2) _ _ fun W3 g3 => ⟨true, hx, fun _ a ha => ?_, fun z => by cases z⟩
  refine ⟨_, rfl, fun ha' => ?_⟩
  let W4 := W3.add a (BX.ExK (.ref C) none a)
  have g4 : Grow W3 W4 := W3.grow_add ha'
  refine ⟨_, rfl, hw W4 a upd_same Q fun W5 g5 => k _ W5 ⟨m2.trans (Grow.s (g3.trans (g4.trans g5))), t2.gr (g3.trans (g4.trans g5))⟩ rfl⟩
/-- nothing is refused -/
theorem ev_allowed {R : Wd → Prop} (hw : ∀ (W : Wd), ∀ Q : VK, (∀ W', Grow W W' → Q (.str "") W'.H) → sw [.non] W.H Q E0)
    (hb : ∀ W1, Md [P] W W1 → ∀ (E : XK) (Q : VK), (∀ v W2, Grow W1 W2 → Q v W2.H) → t E σ W1.H Q) : EvR (lamE P q) K (tLm P q (TTref K CL sw) t) σ W ("" : Str) := fun W1 g1 Q k => by
  have t1 : TabAt W1 P q := g1.i
  refine ⟨t1.ts, fun H1 st => ?_⟩
  obtain ⟨W2, rfl, m2, t2⟩ := t1.step st
  refine fun f => hb W2 (g1.md.trans m2) _ _ fun v W3 g3 => ⟨_, rfl, hw W3 Q fun W5 g5 => k _ W5 ⟨m2.trans (Grow.s (g3.trans g5)), t2.gr (g3.trans g5)⟩ rfl⟩
end
/-- what a call of it gives -/
theorem gives_ref {X : Cx} {Ng : List Str} {x a q : Str} {sg : Scope} {g : Addr} {cdg : Value} {bg : List Stmt} {k : Nat} {CL : Addr} {sw : Sp} (h3 : Ng.length = 3)
    (body : ∀ (f d : Addr) (s : Shared) (H : Hp) (tl : XK → Hp → VK → Prop), Room k (X.A.deeper (envOfC x sg s.heap.objs.size g cdg)) →
      (∀ (W : WX) (pn : List (Addr × Obj)) (xe : Value → Shared → Prop) (p1 p2 : Pos), Takes ((cxOf C8.CX0 X.prog X.w X.K X.mg X.base Ng x sg g cdg X.A X.stack s H C8.E0).tr pn xe) W →
        PE ((cxOf C8.CX0 X.prog X.w X.K X.mg X.base Ng x sg g cdg X.A X.stack s H C8.E0).tr pn xe) (.Call (.Name a p1) [] [] p2) (fun σZ HZ Q => σZ[0]? = some (some (.ref f)) ∧ HZ d = some (CodeO d q) ∧ tl (WE W σZ) HZ Q)) →
      PSs (cxOf C8.CX0 X.prog X.w X.K X.mg X.base Ng x sg g cdg X.A X.stack s H C8.E0).nox bg (tRef X.K CL sw (fun W σZ HZ Q => σZ[0]? = some (some (.ref f)) ∧ HZ d = some (CodeO d q) ∧ tl (WE W σZ) HZ Q))) :
    Gives X Ng x sg g cdg bg a q k (TTref X.K CL sw) := fun f d s H Q tl hr act hc h => by
  refine ⟨_, body f d s H tl hr act, ?_⟩
  have e : L2.start Ng [V.ref f] = [some (.ref f), none, none] := by
    match Ng, h3 with
    | [_, _, _], _ => rfl
  rw [e]
  exact ⟨rfl, hc, h f⟩
/-! ### addresses told by the top's names -/
def tabC (K : Fg) (x : Str) : Addr := match PySem.W.tabIn K x with
  | some (c, _) => c
  | _ => 0
def tabP (K : Fg) (x : Str) : Addr := match PySem.W.tabIn K x with
  | some (_, P) => P
  | _ => 0
theorem tabC_of {K : Fg} {x : Str} {c P : Addr} (h : PySem.W.tabIn K x = some (c, P)) : tabC K x = c := by
  unfold tabC
  rw [h]
theorem tabP_of {K : Fg} {x : Str} {c P : Addr} (h : PySem.W.tabIn K x = some (c, P)) : tabP K x = P := by
  unfold tabP
  rw [h]
/-- a def of which the code object is known -/
structure FunC (K : Fg) (x qual : Str) (st : Stmt) (f : Addr) (fd : FuncData) (c : Addr) : Prop where
  ex : ∃ (oc : Value) (od : Option Addr) (kV doc pm : Value) (an : Option Addr) (ct : Value) (osl : Array (Option Value)),
    fd = PySem.W.fnOf x qual (defArgs st) (defBody st) (defScope st) .none kV doc pm an (.ref c) ct ∧ K.lookup f = some ⟨oc, od, .func fd, osl⟩ ∧ PySem.W.codeIn K (.ref c) qual = true
  kp : PySem.W.keepIn K (.ref f) = true
section
variable {P : Program} {w : World} {K : Fg} {mg : Str → Option Value} {base : Heap}
theorem FunC.okC {x qual : Str} {st : Stmt} {f c : Addr} {fd : FuncData} {N ps : List Str} {k : Nat} {sp : Sp} (F : FunC K x qual st f fd c) (S : FnScope N ps (defScope st)) (len : ∀ vs H Q E, sp vs H Q E → vs.length = ps.length)
    (body : ∀ (A : Around) (outer : List Env) (s : Shared) (H : Hp) (vs : List V) (Q : VK) (E : XK), Room k (A.deeper (envOfC qual (defScope st) s.heap.objs.size f (.ref c))) → sp vs H Q E →
      ∃ t, PSs (cxOf CX0 P w K mg base N qual (defScope st) f (.ref c) A outer s H E).nox (defBody st) t ∧ t { nx := fun _ H' => Q .non H', rt := Q } (start N vs) H) : FnOk P w K mg base CX0 (k + 1) f fd ps sp := by
  obtain ⟨oc, od, kV, doc, pm, an, ct, osl, rfl, lk, hcd⟩ := F.ex
  exact fn_of lk hcd S len fun A outer s H vs Q E hr hsp => by
    obtain ⟨t, h, q⟩ := body A outer s H vs Q E hr hsp
    exact ⟨t, h.nox, q⟩
theorem okGC {x qual : Str} {st : Stmt} {f c : Addr} {fd : FuncData} {N ps : List Str} {k : Nat} {sp : Sp} (F : FunC K x qual st f fd c) (S : FnScope N ps (defScope st)) (ln : ∀ vs H Q E, sp vs H Q E → vs.length = ps.length)
    (body : ∀ (A : Around), A.guards = some [] → ∀ (outer : List Env) (s : Shared) (H : Hp) (vs : List V) (Q : VK) (E : XK), Room k (A.deeper (envOfC qual (defScope st) s.heap.objs.size f (.ref c))) → sp vs H Q E →
      ∃ t, PSs (cxOf CX0 P w K mg base N qual (defScope st) f (.ref c) A outer s H E).nox (defBody st) t ∧ t { nx := fun _ H' => Q .non H', rt := Q } (start N vs) H) : FnG P w K mg base (k + 1) f fd ps sp := by
  obtain ⟨oc, od, kV, doc, pm, an, ct, osl, rfl, lk, hcd⟩ := F.ex
  refine ⟨ln, fun {A outer s H args us vs Q E} hg hr e0 hb r h => ?_⟩
  have same : ∀ b o, base.get? b = some o → s.heap.get? b = some o := fun b o z => (e0.bs b o z).1
  have inK := e0.mod.kin.keeps same
  obtain ⟨t, ht, q⟩ := body A hg outer s H vs Q E (hr.deeper _) h
  refine codeAny_call_function hr.depth (inK _ _ lk) rfl S.co S.gen rfl (PySem.W.codeRec_of inK hcd) (hb _ _ _ _ (wpAny_newFunctionEnv_cells S.kind (fun y hy => ?_) fun env he s1 z => ?_))
  · obtain ⟨n, v⟩ := y
    exact (S.par n (List.of_mem_zip hy).1).imp id fun c => ⟨c, PySem.W.cellsFrom_some _ _ _ (.inl c)⟩
  · subst he
    refine ⟨(e0.mod.nolimit.keeps same).keeps z.toInCall.keep, codeAny_func (wpAny_mono (ht.nox.run [] s1 (start N vs) H _ (inv_start S hr.hd e0 (ln _ _ _ _ h) r z) q) (fun fl s' d => ?_) fun _ _ d => d)⟩
    cases fl with
    | ret u => obtain ⟨v, σ', H', J, rv, d⟩ := d; exact end_of (X := cxOf CX0 P w K mg base N qual (defScope st) f (.ref c) A outer s H E) J rv d
    | next => obtain ⟨σ', H', J, d⟩ := d; exact end_of (X := cxOf CX0 P w K mg base N qual (defScope st) f (.ref c) A outer s H E) (v := .non) J rfl d
    | brk => obtain ⟨_, _, _, d⟩ := d; exact d.elim
    | cont => obtain ⟨_, _, _, d⟩ := d; exact d.elim
end
end B
/-! B: the top where defs hold lambdas; list.count of flat things; the word of a refusal -/
namespace B
open PySem PySem.Spec PyProof.Rows L2 LamX LM
/-- the abstract heap at the top: the script, and the tables, still empty -/
def topT (K : Fg) (a : Addr) (o : Obj) (ns : List Int) (ps : List Addr) : Hp := fun b => if b = a ∧ K.lookup a = none then some (.frz o (.lst (ns.map V.int))) else if b ∈ ps then some (.tbl #[]) else none
section
variable {P : Program} {w : World} {K : Fg} {mg mb : Str → Option Value} {a fa : Addr} {s : Shared} {vs : List Value} {ns : List Int} {k : Nat} {fd : FuncData} {x : Str} {sp : Sp} {cs : List (Addr × Addr)}
theorem topT_some {o : Obj} {ps : List Addr} {b : Addr} {u : HO} (h : topT K a o ns ps b = some u) : (b = a ∧ K.lookup a = none ∧ u = .frz o (.lst (ns.map V.int))) ∨ (b ∈ ps ∧ u = .tbl #[]) := by
  unfold topT at h
  split at h
  · rename_i c; exact .inl ⟨c.1, c.2, (Option.some.inj h).symm⟩
  · split at h
    · rename_i c; exact .inr ⟨c, (Option.some.inj h).symm⟩
    · cases h
theorem topT_none {o : Obj} {ps : List Addr} {b : Addr} (h1 : ¬ (b = a ∧ K.lookup a = none)) (h2 : b ∉ ps) : topT K a o ns ps b = none := by
  unfold topT
  rw [if_neg h1, if_neg h2]
theorem top_lawT (KX : K.In s.heap) (hns : s.heap.Ns mainGlobals mg) (hb : s.heap.Ns builtinsNs mb) (hbb : ∀ x : Str, x ≠ "__name__" → mb x = bootBuiltins x) (hlim : s.heap.NoLimit) (hg : s.gens = #[])
    (ht : ∀ p ∈ cs, s.heap.get? p.2 = some { cls := .none, data := .fields #[] }) (kt : ∀ p ∈ cs, K.lookup p.2 = none) (ct : ∀ p ∈ cs, PySem.W.CodeHd s.heap p.1 p.2)
    (hm : ∃ (bm : Addr) (ob : Obj), mg "__builtins__" = some (.ref bm) ∧ bm ≠ builtinsNs ∧ s.heap.get? bm = some ob ∧ ob.cls = .type "module" ∧ ob.dict = some builtinsNs ∧ ob.data = .plain)
    (ha : s.heap.get? a = some { cls := .type "list", data := .seq vs.toArray }) (hi : IntsAre vs ns) (hl : ns.length ≤ sizeLine)
    (hr : Room k callerA) (F : ∀ base : Heap, K.In base → base.Ns mainGlobals mg → (∀ p ∈ cs, TabB base mg p.1 p.2) → FnG P w K mg base k fa fd [x] sp) (hbind : ∀ (s : Shared) (u : Value), BindsTo s fd ⟨[u], []⟩ [(x, u)])
    (hsp : ∀ H : Hp, (∀ p ∈ cs, H p.2 = some (.tbl #[]) ∧ a ≠ p.2) → SqL K H a (ns.map V.int) → sp [.ref a] H (fun v _ => v = .bl true) fun _ _ _ => False) :
    codeAny (model P w) callerA (.call (.ref fa) ⟨[.ref a], []⟩) (fun r s' => r = .ok (.ret (.bool true)) ∧ OldK s.heap s'.heap ∧ s'.os = s.os ∧ AllBare s'.gens) s := by
  let ps := cs.map (·.2)
  let o : Obj := { cls := .type "list", data := .seq vs.toArray }
  let H := topT K a o ns ps
  have mem : ∀ {b : Addr}, b ∈ ps → s.heap.get? b = some { cls := .none, data := .fields #[] } ∧ K.lookup b = none := fun {b} hb => by
    obtain ⟨p, hp, e⟩ := List.mem_map.mp hb
    rw [← e]
    exact ⟨ht p hp, kt p hp⟩
  have na : a ∉ ps := fun z => by
    have := (mem z).1
    rw [ha] at this
    have e : Data.seq vs.toArray _ = Data.fields #[] := congrArg Obj.data (Option.some.inj this)
    cases e
  have inp : ∀ p ∈ cs, p.2 ∈ ps := fun p hp => List.mem_map.mpr ⟨p, hp, rfl⟩
  have stay : ∀ {b : Addr} {u : Obj}, s.heap.get? b = some u → (b = a → K.lookup a = none → False) → (u.data ≠ .fields #[]) → (hidT s.heap H).get? b = some u := fun {b u} z n1 n2 => hidT_get z (topT_none (fun c => n1 c.1 c.2) fun c => by
    rw [(mem c).1] at z
    cases z
    exact n2 rfl)
  have ns' : ∀ {b : Addr} {m : Str → Option Value}, s.heap.Ns b m → (hidT s.heap H).Ns b m := fun {b m} ⟨u, es, ep, z1, z2, z3⟩ => ⟨u, es, ep, stay z1 (fun c _ => by
    rw [c, ha] at z1
    cases z1
    cases z2) (by rw [z2]; exact fun z => by cases z), z2, z3⟩
  have kin : K.In (hidT s.heap H) := fun b u z => hidT_get (KX b u z) (topT_none (fun c => by
    rw [c.1, c.2] at z
    cases z) fun c => by
    rw [(mem c).2] at z
    cases z)
  have hok : HOk P w H s.heap := fun b u z => by
    rcases topT_some z with ⟨rfl, _, rfl⟩ | ⟨c, rfl⟩
    · exact ⟨ha, by rw [List.length_map]; exact hl, vs, _, vals_ints hi, ha⟩
    · exact (mem c).1
  obtain ⟨mc, l1, l2⟩ := hlim
  have e0 : Env0 P w K mg (hidT s.heap H) callerA [] s H := ⟨rfl, ⟨kin, ns' hns, ⟨mb, ns' hb, hbb⟩, mc, ns' l1, l2⟩, fun b u z => of_hidT z, Nat.le_of_eq (hidT_size _ _), trivial, fun b z => (nomatch z), hok, .of_eq hg⟩
  have tb : ∀ p ∈ cs, TabB (hidT s.heap H) mg p.1 p.2 := fun p hp => by
    have htp := ht p hp
    refine ⟨?_, ?_, fun z => ?_⟩
    · obtain ⟨u, us, file, tf, flags, tg, inF, text, tt, e1, r1, r2, r3, rest⟩ := ct p hp
      refine ⟨u, us, file, tf, flags, tg, inF, text, tt, stay e1 (fun c _ => ?_) (fun z => ?_), r1, r2, r3, rest⟩
      · rw [c, ha] at e1
        cases e1
        cases r2
      · rw [r2] at z
        cases z
        simp at r3
    · obtain ⟨bm, ob, b1, b2, b3, b4, b5, b6⟩ := hm
      refine ⟨bm, ob, b1, b2, fun q => ?_, fun q => ?_, stay b3 (fun c _ => ?_) (by rw [b6]; exact fun z => by cases z), b4, b5, b6⟩
      · obtain ⟨u, es, ep, e, hd, _⟩ := hns
        rw [q, e] at b3
        cases b3
        rw [hd] at b6
        cases b6
      · rw [q, htp] at b3
        cases b3
        cases b6
      · rw [c, ha] at b3
        cases b3
        cases b6
    · obtain ⟨u, es, ep, e, hd, _⟩ := hns
      rw [z, htp] at e
      cases e
      cases hd
  have seq : SqL K H a (ns.map V.int) := by
    cases e : K.lookup a with
    | none => exact .inl (.inr ⟨_, if_pos ⟨rfl, e⟩⟩)
    | some u =>
      have := (KX a u e).symm.trans ha
      cases this
      exact .inr ⟨_, vs.toArray, _, e, rfl, rfl, rfl, by rw [List.size_toArray, hi.length]; exact hl, by simpa using vals_ints hi⟩
  have tbl : ∀ p ∈ cs, H p.2 = some (.tbl #[]) ∧ a ≠ p.2 := fun p hp => by
    have ne : a ≠ p.2 := fun z => na (by rw [z]; exact inp p hp)
    exact ⟨(if_neg fun c => ne c.1.symm).trans (if_pos (inp p hp)), ne⟩
  refine codeAny_mono ((F _ kin (ns' hns) tb).go (us := [.ref a]) (vs := [.ref a]) rfl hr e0 (hbind s (.ref a)) (.cons rfl .nil) (hsp H tbl seq)) fun r s' d => ?_
  cases r with
  | error e => exact absurd d (by intro z; exact z.elim)
  | ok fl =>
    cases fl with
    | next => exact d.elim
    | brk => exact d.elim
    | cont => exact d.elim
    | ret u =>
      obtain ⟨v, H', hos, hbare, un, ok', rv, rfl⟩ := d
      cases (show u = Value.bool true from rv)
      have grown : ∀ p ∈ cs, ∃ more : Array Value, s'.heap.get? p.2 = some { cls := .none, data := .fields more } := fun p hp => by
        obtain ⟨more, z⟩ := un.tbls p.2 #[] (tbl p hp).1
        exact ⟨_, ok' p.2 _ z⟩
      have other : ∀ b u, b ∉ ps → s.heap.get? b = some u → s'.heap.get? b = some u := fun b u nb z => by
        cases q : H b with
        | none => exact un.keep b u z q (fun c => nomatch c) (fun c => nomatch c)
        | some y =>
          rcases topT_some q with ⟨rfl, _, rfl⟩ | ⟨c, _⟩
          · have := (ok' _ _ (un.frzs _ _ _ q)).1
            rw [ha] at z
            cases z
            exact this
          · exact absurd c nb
      refine ⟨rfl, ⟨fun b u z => ?_, fun b u z => ?_⟩, hos, hbare⟩
      · by_cases c : b ∈ ps
        · obtain ⟨p, hp, e⟩ := List.mem_map.mp c
          obtain ⟨more, hmo⟩ := grown p hp
          have e : p.2 = b := e
          subst e
          rw [ht p hp] at z
          cases z
          exact .inr (.inl ⟨((ct p hp).tab (ht p hp)).isCodeTable, rfl, #[], more, rfl, by rw [Array.empty_append]; exact hmo⟩)
        · exact .inl (other b u c z)
      · by_cases c : b ∈ ps
        · obtain ⟨p, hp, e⟩ := List.mem_map.mp c
          obtain ⟨more, hmo⟩ := grown p hp
          have e : p.2 = b := e
          exact ⟨_, e ▸ hmo⟩
        · exact ⟨u, other b u c z⟩
end
theorem walkGT {xs : List Str} {l : PySem.W.OpenLaw} {n k : Nat} {q : Program} {loose : List Str} {XP : (Str → Option Value) → Heap → Prop} {YP : World → Heap → Prop} {d : DefRec} {K : Params → Fg} {sp : World → Sp} {x : Str} (hn : l.most = some n) (hn2 : n ≤ sizeLine) (hdf : d.params.defaults = []) (hr : Room k callerA)
    (hrec : (xs.all fun x => ((recsOf q).find? fun e => e.name == x).isSome) = true) (hY : ∀ (w : World) (h : Heap), YP w h → (K w.params).In h)
    (F : ∀ (w : World) (mg : Str → Option Value) (fa : Addr) (h : Heap), (K w.params).In h → h.Ns mainGlobals mg → mg d.name = some (.ref fa) → ∃ fd : FuncData, (∀ (s : Shared) (u : Value), BindsTo s fd ⟨[u], []⟩ [(x, u)]) ∧
      (∀ x ∈ xs, ∃ c P, PySem.W.tabIn (K w.params) x = some (c, P) ∧ (K w.params).lookup P = none) ∧
      ∀ base : Heap, (K w.params).In base → base.Ns mainGlobals mg → (∀ x ∈ xs, TabB base mg (tabC (K w.params) x) (tabP (K w.params) x)) → FnG l.prog w (K w.params) mg base k fa fd [x] (sp w))
    (hsp : ∀ (w : World) (H : Hp) (a : Addr) (ns : List Int), ns.length ≤ n → (∀ x ∈ xs, H (tabP (K w.params) x) = some (.tbl #[]) ∧ a ≠ tabP (K w.params) x) → SqL (K w.params) H a (ns.map V.int) → sp w [.ref a] H (fun v _ => v = .bl true) fun _ _ _ => False) :
    PySem.W.WalkO q loose XP YP l.row.toRowW d [] (fun f vs => PySem.call f vs) :=
  Att.attach_call hn hdf fun w s₀ s₁ mg mb fa o pm cd doc a vs ns G Y ho hd hcd hmg hobj hints hlen hg => by
    have KX := hY w _ Y
    obtain ⟨fd, hb, ht, hF⟩ := F w mg fa _ KX G.T.g hmg
    have tabs : ∀ x ∈ xs, PySem.W.CodeHd s₁.heap (tabC (K w.params) x) (tabP (K w.params) x) ∧ s₁.heap.get? (tabP (K w.params) x) = some { cls := .none, data := .fields #[] } ∧ (K w.params).lookup (tabP (K w.params) x) = none := fun x hx => by
      obtain ⟨c, P, e, e2⟩ := ht x hx
      obtain ⟨r, hr⟩ := Option.isSome_iff_exists.mp (List.all_eq_true.mp hrec x hx)
      have := PySem.W.tab_of G.T KX hr e
      rw [tabC_of e, tabP_of e]
      exact ⟨this.1, this.2, e2⟩
    let cs := xs.map fun x => (tabC (K w.params) x, tabP (K w.params) x)
    have all : ∀ (R : Addr × Addr → Prop), (∀ x ∈ xs, R (tabC (K w.params) x, tabP (K w.params) x)) → ∀ p ∈ cs, R p := fun R h p hp => by
      obtain ⟨x, hx, rfl⟩ := List.mem_map.mp hp
      exact h x hx
    refine top_lawT (cs := cs) KX G.T.g G.T.b G.T.builtins G.T.nolimit hg (all _ fun x hx => (tabs x hx).2.1) (all _ fun x hx => (tabs x hx).2.2) (all _ fun x hx => (tabs x hx).1) G.T.bmain hobj hints (Nat.le_trans hlen hn2) hr (fun base h1 h2 h3 => hF base h1 h2 fun x hx => h3 _ (List.mem_map.mpr ⟨x, hx, rfl⟩)) hb fun H hH hS => hsp w H a ns hlen (fun x hx => hH _ (List.mem_map.mpr ⟨x, hx, rfl⟩)) hS
/-! ### list.count, flat things -/
section
variable {X : Cx}
def rCntF (K : Fg) : V → List V → Hp → VK → Prop := fun x xs H Q => ∃ (a : Addr) (ys : List V) (y : V), x = V.ref a ∧ xs = [y] ∧ SqL K H a ys ∧ flatV y = true ∧ ys.all flatV = true ∧ Q (.int (ys.countP (fun z => eqV z y) : Nat)) H
theorem cnt_flat {y : V} {uy : Value} (ry : RelV y uy) (fy : flatV y = true) : ∀ {ys : List V} {us : List Value}, Vals ys us → ys.all flatV = true → us.countP (eqU y) = ys.countP (fun z => eqV z y)
  | _, _, .nil, _ => rfl
  | _, _, .cons r rs, f => by
    rw [List.all_cons, Bool.and_eq_true] at f
    rw [List.countP_cons, List.countP_cons, cnt_flat ry fy rs f.2, eqU_of r f.1]
theorem mt_countF : MtR X "list.count" (rCntF X.K) := by
  intro pins s σ H x xs v us Q I rx rxs h
  obtain ⟨a, ys, y, rfl, rfl, hs, fy, fys, q⟩ := h
  cases rx
  obtain ⟨uy, rfl, ry⟩ := rxs.one
  obtain ⟨its, rv, ⟨⟨cls, dd, data, sl⟩, n, ho, hc, hdn, hd⟩, _⟩ := I.list hs
  simp only at hc hd
  subst hc hd
  refine call_meets PySem.F.slot_list_count ⟨_, ho, rfl⟩ PySem.F.entry_list_count (PySem.F.args_list_count_2 _ _)
    (SeqAt.list_countAt a its.toArray n dd sl uy (eqU y)) ⟨ho, fun u hu => mem_eqAt ry fy rv fys u (by simpa using hu), ?_⟩
  refine ⟨.int (ys.countP (fun z => eqV z y) : Nat), H, I.tok _, ⟨s.toks, ?_⟩, q⟩
  rw [show its.toArray.toList.countP (eqU y) = ys.countP (fun z => eqV z y) by rw [List.toList_toArray]; exact cnt_flat ry fy rv fys]
end
theorem tab_mk {K : Fg} {x : Str} {f C Pp : Addr} {oc o1 : Value} {od o2 : Option Addr} {fd : FuncData} {osl s2 : Array (Option Value)} {vs : Array Value} (a : PySem.W.nsIn K mainGlobals x = some (some (.ref f))) (l : K.lookup f = some ⟨oc, od, .func fd, osl⟩) (hc : fd.code = .ref C)
    (lc : K.lookup C = some ⟨o1, o2, .fields vs, s2⟩) (hv : (vs[11]? : Option Value) = some (.ref Pp)) : PySem.W.tabIn K x = some (C, Pp) := by
  unfold PySem.W.tabIn
  rw [a]
  dsimp only
  rw [l]
  dsimp only
  rw [hc]
  dsimp only
  rw [lc]
  dsimp only
  rw [hv]
theorem funC_mk {K : Fg} {x q : Str} {st : Stmt} {f C Pp : Addr} {oc : Value} {od an : Option Addr} {osl : Array (Option Value)} {kV doc pm ct : Value} (ti : PySem.W.tabIn K q = some (C, Pp))
    (l : K.lookup f = some ⟨oc, od, .func (PySem.W.fnOf x q (defArgs st) (defBody st) (defScope st) .none kV doc pm an (.ref C) ct), osl⟩) (c : PySem.W.codeIn K (.ref C) q = true) (k : PySem.W.keepIn K (.ref f) = true) :
    FunC K x q st f (PySem.W.fnOf x q (defArgs st) (defBody st) (defScope st) .none kV doc pm an (.ref (tabC K q)) ct) (tabC K q) := by
  rw [tabC_of ti]
  exact ⟨⟨oc, od, kV, doc, pm, an, ct, osl, rfl, l, c⟩, k⟩
/-- what is raised in a lambda's body goes to whoever called it, told over any name of the context -/
theorem lam_passE {X : Cx} {A : Around} {outer : List Env} {s : Shared} {H : Hp} {E : XK} {scope : Scope} {f d : Addr} {CC : _} (h : CC = L2.CX X.prog X.w := by rfl) : Passes CC (lamCx X A outer s H E scope f d) E := by
  subst h
  exact LM.lam_pass
/-- x(lambda: ..), the def told by its row -/
theorem pe_lmF {X : Cx} {TT : (XK → Hp → VK → Prop) → Hp → VK → Prop} {x a : Str} {g c P : Addr} {k : Nat} {st : Stmt} {fd : FuncData} {Ng : List Str} {params : Arguments} {body : Expr} {scope : Scope} {t : XK → TE} {p lpos pos : Pos} (hg : Gl X x) (hm : X.mg x = some (.ref g))
    (F : Fun X.K x x st g fd) (hb : Binds X.K fd [a] []) (Sg : FnScope Ng [a] (defScope st)) (hNg : Ng[0]? = some a) (hva : Vis (defScope st) a) (hG : ∀ cdg, Gives X Ng x (defScope st) g cdg (defBody st) a (X.env.qual ++ "<lambda>") (k + 1) TT)
    (tb : TabB X.base X.mg c P) (ec : X.env.code = .ref c) (hr : Room (k + 2) X.A) (L : LamS X.env.scope scope) (ed : defaultsOf params X.env = ([], [])) (eb : ∀ (q : Str) (cl : List (Str × Addr)) (pm cv ctv : Value), bindArgs (PySem.W.kla_fn "<lambda>" q params body scope cl pm cv ctv) ⟨[], []⟩ = pure [])
    (hbody : ∀ (A : Around) (outer : List Env) (s : Shared) (H : Hp) (E : XK) (f d : Addr), Room k (A.deeper (lamEnv X scope s.heap.objs.size f d)) → PE (lamCx X A outer s H E scope f d) body (t E))
    (hdb : (x == ("__debug__" : Str)) = false := by decide) (hd : (a == ("__debug__" : Str)) = false := by decide) (hcd : (a == ("__classdict__" : Str)) = false := by decide) :
    PE X (.Call (.Name x p) [.Lambda params body scope lpos] [] pos) (tLm P (X.env.qual ++ "<lambda>") TT t) := by
  obtain ⟨oc, od, kV, doc, pm, an, cdv, ct, osl, rfl, lk, hcd'⟩ := F.ex
  exact pe_lm hg hm F.kp lk hcd' hb Sg hNg hva (hG cdv) tb ec hr L ed eb hbody hdb hd hcd
end B
/-! B: what is refused in a lambda, told by any statements; fields of an error that was kept -/
namespace B
open PySem PySem.Spec PyProof.Rows L2 LamX LM
/-- the body of a def that calls what it got, catches, and goes on -/
abbrev tRfg (K : Fg) (CL : Addr) (rest : TS) (act : WX → TE) : TS :=
  tSeq (tAsg (tC .non) (gName 1)) (tSeq (fun D σ H => tDrop (act (BX.wAsK K (.ref CL) 2 (fun _ _ _ => tAsg (tVar 2) (gName 1)) (fun _ _ _ _ => False) D)) D σ H) rest)
def TTrg (K : Fg) (CL : Addr) (rest : TS) : (XK → Hp → VK → Prop) → Hp → VK → Prop := fun tl H Q =>
  ∀ f : Addr, tRfg K CL rest (fun W σ H Q => tl (WE W σ) H Q) { nx := fun _ H' => Q .non H', rt := Q } [some (.ref f), none, none] H
theorem gives_rg {X : Cx} {Ng : List Str} {x a q : Str} {sg : Scope} {g : Addr} {cdg : Value} {bg : List Stmt} {k : Nat} {CL : Addr} {rest : TS} (h3 : Ng.length = 3)
    (body : ∀ (f d : Addr) (s : Shared) (H : Hp) (tl : XK → Hp → VK → Prop), Room k (X.A.deeper (envOfC x sg s.heap.objs.size g cdg)) →
      (∀ (W : WX) (pn : List (Addr × Obj)) (xe : Value → Shared → Prop) (p1 p2 : Pos), Takes ((cxOf C8.CX0 X.prog X.w X.K X.mg X.base Ng x sg g cdg X.A X.stack s H C8.E0).tr pn xe) W →
        PE ((cxOf C8.CX0 X.prog X.w X.K X.mg X.base Ng x sg g cdg X.A X.stack s H C8.E0).tr pn xe) (.Call (.Name a p1) [] [] p2) (fun σZ HZ Q => σZ[0]? = some (some (.ref f)) ∧ HZ d = some (CodeO d q) ∧ tl (WE W σZ) HZ Q)) →
      PSs (cxOf C8.CX0 X.prog X.w X.K X.mg X.base Ng x sg g cdg X.A X.stack s H C8.E0).nox bg (tRfg X.K CL rest (fun W σZ HZ Q => σZ[0]? = some (some (.ref f)) ∧ HZ d = some (CodeO d q) ∧ tl (WE W σZ) HZ Q))) :
    Gives X Ng x sg g cdg bg a q k (TTrg X.K CL rest) := fun f d s H Q tl hr act hc h => by
  refine ⟨_, body f d s H tl hr act, ?_⟩
  have e : L2.start Ng [V.ref f] = [some (.ref f), none, none] := by
    match Ng, h3 with
    | [_, _, _], _ => rfl
  rw [e]
  exact ⟨rfl, hc, h f⟩
/-- the fields of an error, if any, stand -/
structure FldW (W : Wd) (dd : Option Addr) (fs : List (Str × V)) : Prop where
  s : fs ≠ [] → dd ≠ none
  h : ∀ d, dd = some d → W.H d = some (.xd fs)
theorem FldW.gr {W W' : Wd} {dd : Option Addr} {fs : List (Str × V)} (h : FldW W dd fs) (g : Grow W W') : FldW W' dd fs := ⟨h.s, fun d e => g.h _ _ (h.h d e)⟩
theorem FldW.non (W : Wd) : FldW W none [] := ⟨fun z => absurd rfl z, fun d z => by cases z⟩
theorem FldW.of {W : Wd} {d : Addr} {fs : List (Str × V)} (h : W.H d = some (.xd fs)) : FldW W (some d) fs := ⟨fun _ z => (by cases z), fun d' e => by cases e; exact h⟩
section
variable {α : Type} [Py α] {K : Fg} {CL C P : Addr} {rest : TS} {t : XK → TE} {σ : SS} {W : Wd} {q : Str} {w : α}
/-- what is refused -/
theorem ev_rg {fs : List (Str × V)} (hx : PySem.W.exmOne K (.ref C) (.ref CL) = some true)
    (hw : ∀ (W1 : Wd) (a f : Addr) (dd : Option Addr), W1.H a = some (BX.ExK (.ref C) dd a) → FldW W1 dd fs → ∀ Q : VK, (∀ v W', Grow W1 W' → rep K W'.B v w → Q v W'.H) → rest { nx := fun _ H' => Q .non H', rt := Q } [some (.ref f), some (.ref a), none] W1.H)
    (hb : ∀ W1, Md [P] W W1 → ∀ (E : XK) (Q : VK), (∀ W2 dd, Grow W1 W2 → FldW W2 dd fs → E (.ref C) dd W2.H) → t E σ W1.H Q) : EvR (lamE P q) K (LM.tLm P q (TTrg K CL rest) t) σ W w := fun W1 g1 Q k => by
  have t1 : TabAt W1 P q := g1.i
  refine ⟨t1.ts, fun H1 st => ?_⟩
  obtain ⟨W2, rfl, m2, t2⟩ := t1.step st
  refine fun f => hb W2 (g1.md.trans m2) _ _ fun W3 dd g3 hf => ⟨true, hx, fun _ a ha => ?_, fun z => by cases z⟩
  refine ⟨_, rfl, fun ha' => ?_⟩
  let W4 := W3.add a (BX.ExK (.ref C) dd a)
  have g4 : Grow W3 W4 := W3.grow_add ha'
  exact hw W4 a f dd upd_same (hf.gr g4) Q fun v W5 g5 r => k v W5 ⟨m2.trans (Grow.s (g3.trans (g4.trans g5))), t2.gr (g3.trans (g4.trans g5))⟩ r
/-- nothing is refused -/
theorem ev_rgOk (hw : ∀ (W1 : Wd) (f : Addr), ∀ Q : VK, (∀ v W', Grow W1 W' → rep K W'.B v w → Q v W'.H) → rest { nx := fun _ H' => Q .non H', rt := Q } [some (.ref f), some .non, none] W1.H)
    (hb : ∀ W1, Md [P] W W1 → ∀ (E : XK) (Q : VK), (∀ v W2, Grow W1 W2 → Q v W2.H) → t E σ W1.H Q) : EvR (lamE P q) K (LM.tLm P q (TTrg K CL rest) t) σ W w := fun W1 g1 Q k => by
  have t1 : TabAt W1 P q := g1.i
  refine ⟨t1.ts, fun H1 st => ?_⟩
  obtain ⟨W2, rfl, m2, t2⟩ := t1.step st
  exact fun f => hb W2 (g1.md.trans m2) _ _ fun v W3 g3 => hw W3 f Q fun u W5 g5 r => k u W5 ⟨m2.trans (Grow.s (g3.trans g5)), t2.gr (g3.trans g5)⟩ r
end
/-- err.f, err an error that was kept -/
def tXg (K : Fg) (C : Addr) (f : Str) (te : TE) : TE := fun σ H Q => te σ H fun x H1 => ∃ (a dd : Addr) (fs : List (Str × V)) (v : V), x = .ref a ∧ H1 a = some (BX.ExK (.ref C) (some dd) a) ∧ H1 dd = some (.xd fs) ∧ fs.lookup f = some v ∧ Q v H1
theorem pe_xg {X : Cx} {C : Addr} {e : Expr} {te : TE} {pos : Pos} {n : Str} (T : XfC X.K C) (hno : PySem.W.findIn X.K (.ref C) n = some none) (he : PE X e te) (hb : attributeBase e n X.env (eval e X.env) = eval e X.env := by rfl) : PE X (.Attribute e n pos) (tXg X.K C n te) := by
  refine ⟨fun pins s σ H Q I h => ?_⟩
  refine attr_of hb (thn (he.run pins s σ H _ I h) fun u s1 hh => ?_)
  obtain ⟨x, H1, I1, rx, a, dd, fs, v, ex, ha, ea, l, q⟩ := hh
  subst ex
  obtain rfl : u = Value.ref a := rx
  obtain ⟨oe, vs, hget, hz, hv⟩ := (I1.hok a _ ha).1
  have hx : ObjOk X.prog X.w H1 s1.heap dd (.xd fs) := I1.hok dd _ ea
  obtain ⟨mA, hns, hr⟩ := hx
  obtain ⟨od, ho, hl⟩ := lookIn_ns hns
  obtain ⟨u, hu, ru⟩ := RelO.some_of (v := v) (o := mA n) (by rw [← l]; exact hr n)
  have J : PySem.W.InstAt s1.heap a oe C (some od) := ⟨hget, hz.1, by unfold PySem.W.notCls; rw [hv] <;> rfl, by rw [hz.2]; exact ho⟩
  exact HandSPX.exc_get I1.kIn J T.ga T.gg T.exC (PySem.W.findObj_own T.hdC hno rfl (by rw [hl, hu])) (handed_of ru) ⟨v, H1, I1.tok _, ru, q⟩
/-- texts and numbers, mixed -/
inductive SI where
  | s (x : Str) | n (i : Int)
  deriving DecidableEq
open PySem.W (Datum)
def SI.toD : SI → PyData
  | .s x => .str x
  | .n i => .int i
instance : Datum SI where
  toD := SI.toD
  plain a := by cases a <;> rfl
  eqv a b := by
    cases a <;> cases b
    · simp only [SI.toD, PyData.eqv, SI.s.injEq]; exact PySem.W.beq_decide _ _
    · simp [SI.toD, PyData.eqv]
    · simp [SI.toD, PyData.eqv]
    · simp only [SI.toD, PyData.eqv, SI.n.injEq]; exact PySem.W.beq_decide _ _
  depth := 0
  depth_le a := by cases a <;> exact Nat.le_refl _
def siRep (K : Fg) (H : Hp) (v : V) : SI → Prop
  | .s x => rep K H v x
  | .n i => rep K H v i
instance : Py SI := ⟨siRep, fun {K H H' v x} e h => by cases x <;> exact h⟩
instance : PyD SI := ⟨fun {K W v x} h => by
  cases x with
  | s x => exact PyD.dp (α := Str) h
  | n x => exact PyD.dp (α := Int) h⟩
theorem ev_sS {K : Fg} {ε : Ef} {te : TE} {σ : SS} {W : Wd} {x : Str} (h : EvR ε K te σ W x) : EvR ε K te σ W (SI.s x) := h
theorem ev_sN {K : Fg} {ε : Ef} {te : TE} {σ : SS} {W : Wd} {x : Int} (h : EvR ε K te σ W x) : EvR ε K te σ W (SI.n x) := h
/-- how the arguments of a def whose code object is known bind -/
theorem FunC.binds {K : Fg} {x qual : Str} {st : Stmt} {f c : Addr} {fd : FuncData} {ps : List Str} (F : FunC K x qual st f fd c)
    (h : ∀ (kV doc pm : Value) (an : Option Addr) (cdv ct : Value) (us : List Value), us.length = ps.length → bindArgs (PySem.W.fnOf x qual (defArgs st) (defBody st) (defScope st) .none kV doc pm an cdv ct) ⟨us, []⟩ = pure (ps.zip us)) : Binds K fd ps [] := by
  obtain ⟨oc, od, kV, doc, pm, an, ct, osl, rfl, lk, hcd⟩ := F.ex
  exact .all (h kV doc pm an (.ref c) ct)
end B
set_option maxHeartbeats 8000000
/-! k58: runs of ticks told at once; the law's groups -/
namespace B
open PySem L2
open PySem.W (Tup T3 T4 Datum DatumOrd)
open Evl (Ex)
/-- a class of refusals: what it is, among the three -/
structure Refd (K : Fg) (x : Str) : Prop where
  e : ExcC K (cErr K x)
  v : PySem.W.kitOne K (.ref (cErr K x)) (.type "ValueError") = some true
  l : PySem.W.exmOne K (.ref (cErr K x)) (.ref (cErr K "LeftError")) = some true
  ks : ∀ n ∈ (["NoTick", "NoNumber", "NoTruth"] : List Str), PySem.W.kitOne K (.ref (cErr K x)) (.ref (cErr K n)) = some (decide (n = x))
def AllK (K : Fg) (x : Str) : List Str → Prop
  | [] => True
  | n :: l => PySem.W.kitOne K (.ref (cErr K x)) (.ref (cErr K n)) = some (decide (n = x)) ∧ AllK K x l
theorem refd_mk {K : Fg} {x : Str} : ∀ l : List Str, AllK K x l → ∀ n ∈ l, PySem.W.kitOne K (.ref (cErr K x)) (.ref (cErr K n)) = some (decide (n = x))
  | [], _, n, h => by cases h
  | m :: l, ⟨h1, h2⟩, n, h => by
    rcases List.mem_cons.mp h with e | e
    · rw [e]; exact h1
    · exact refd_mk l h2 n e
def sp_NoTick___init__ (K : Fg) : Sp := fun vs H Q _ => ∃ (a : Addr) (u : V), vs = [.ref a, u] ∧ H a = some (exo a (cErr K "NoTick") none) ∧ ∀ dx, H dx = none → dx ≠ a → Q .non (upd (upd H dx (exd dx [("at", u)])) a (exo a (cErr K "NoTick") (some dx)))
theorem len_NoTick___init__ {K : Fg} {vs : List V} {H : Hp} {Q : VK} {E : XK} (h : sp_NoTick___init__ K vs H Q E) : vs.length = ["self", "at"].length := by
  obtain ⟨a, u, rfl, _⟩ := h
  rfl
/-- NoTick.__init__: the slots 0 self, 1 at -/
abbrev n_NoTick___init__ : List Str := ["self", "at"]
def t_NoTick___init__ (K : Fg) : TS := (tOst K "at" (tVar 0) (tVar 1))
def sp_runs_of (K : Fg) (C : Addr) : Sp := fun vs H Q E =>
  (∃ (W : Wd) (now : Nat) (v : V) (ts : List Int), W.H = H ∧ vs = [.int now, v] ∧ (rep K W.B v ts ∨ rep K W.B v (Tup.mk ts)) ∧ Tks now ts ∧ now ≤ 5000 ∧ ∀ x W', Grow W W' → W.H x = none → RunAt K W' C x now (Lf ts) → Q (.ref x) W'.H) ∨
  (∃ (W : Wd) (u v : V) (o : Odd), W.H = H ∧ vs = [u, v] ∧ rep K W.B u o ∧ (∀ z : Int, o = .int z → z < 0) ∧ ∀ W' dd, Grow W W' → dd = none → E (.ref (cErr K "NoNumber")) dd W'.H) ∨
  (∃ (W : Wd) (now : Nat) (v : V) (d : PyData), W.H = H ∧ vs = [.int now, v] ∧ rep K W.B v d ∧ kitB (dcls d) "list" = some false ∧ kitB (dcls d) "tuple" = some false ∧ ∀ W' dd, Grow W W' → W'.H dd = some (.xd [("at", .int 0)]) → E (.ref (cErr K "NoTick")) (some dd) W'.H) ∨
  (∃ (W : Wd) (now : Nat) (v : V) (os : List Odd) (j : Nat), W.H = H ∧ vs = [.int now, v] ∧ rep K W.B v os ∧ os.length ≤ 6001 ∧ wrongAt now 0 os = some j ∧ ∀ W' dd, Grow W W' → W'.H dd = some (.xd [("at", .int (j : Nat))]) → E (.ref (cErr K "NoTick")) (some dd) W'.H)
theorem len_runs_of {K : Fg} {C : Addr} {vs : List V} {H : Hp} {Q : VK} {E : XK} (h : sp_runs_of K C vs H Q E) : vs.length = ["now", "ticks"].length := by
  rcases h with ⟨W, now, v, ts, _, rfl, _⟩ | ⟨W, u, v, o, _, rfl, _⟩ | ⟨W, now, v, d, _, rfl, _⟩ | ⟨W, now, v, os, j, _, rfl, _⟩ <;> rfl
/-- runs_of: the slots 0 now, 1 ticks, 2 ahead, 3 at, 4 tick, 5 found, 6 marks -/
abbrev n_runs_of : List Str := ["now", "ticks", "ahead", "at", "tick", "found", "marks"]
def t_runs_of (K : Fg) (c_Runs : Addr) (E : XK) : TS := (tSeq (tIfS (tOr (tNot (tB (tCB (rIsi K) (tCons (tVar 0) (tCons (tC (.ty "int")) tNil))))) (tOr (tB (tCB (rIsi K) (tCons (tVar 0) (tCons (tC (.ty "bool")) tNil)))) (tTest (tOp oLt (tVar 0) (tC (.int 0)))))) (BX.tRaiseO (cErr K "NoNumber") E) tNext)
  (tSeq (tIfS (tNot (tB (tCB (rIsiT K) (tCons (tVar 1) (tCons (tTup (tCons (tC (.ty "list")) (tCons (tC (.ty "tuple")) tNil))) tNil))))) (BE.tRaiseI (cErr K "NoTick") (sp_NoTick___init__ K) (tCons (tC (.int 0)) tNil) E) tNext)
  (tSeq (tAsg (tC (.int 0)) (gName 2))
  (tSeq (tFor (BY.iEnumSeq K (tCons (tVar 1) tNil)) (gPair K 3 4)
  (tSeq (tIfS (tNot (tB (tCall (sp_is_tick K) [] E0 (tCons (tVar 4) (tCons (tOp oAdd (tVar 2) (tC (.int 1))) (tCons (tVar 0) tNil)))))) (BE.tRaiseI (cErr K "NoTick") (sp_NoTick___init__ K) (tCons (tVar 3) tNil) E) tNext)
  (tAsg (tVar 4) (gName 2))))
  (tSeq (tPar 5 6 (tCons (tMake c_Runs (sp_Runs___init__ K c_Runs) [] E0 tNil) (tCons (tDc (BY.iSeq K (tVar 1)) (gName 4) tYes (tVar 4) (tC (.bl true)) [4]) tNil)))
  (tSeq (tFor (iRng2 (tCons (tC (.int 1)) (tCons (tOp oAdd (tVar 0) (tC (.int 1))) tNil))) (gName 4)
  (tDrop (tMeth c_Runs "tick" (sp_Runs_tick K c_Runs) [] E (tVar 5) (tCons (tDIn (tVar 4) (tVar 6)) tNil))))
  (tRet (tVar 5))))))))
def sp__law_ticks (K : Fg) : Sp := fun vs H Q _ => ∃ (W : Wd) (p : Addr) (n : Nat), W.H = H ∧ vs = [.ref p, .int n] ∧ Sd K W p ∧ n ≤ 3000 ∧ ∀ v (bs : List Bool) W', Md [p] W W' → Sd K W' p → rep K W'.B v bs → bs.length = n → Q v W'.H
theorem len__law_ticks {K : Fg} {vs : List V} {H : Hp} {Q : VK} {E : XK} (h : sp__law_ticks K vs H Q E) : vs.length = ["_law_state", "_law_many"].length := by
  obtain ⟨W, p, n, _, rfl, _⟩ := h
  rfl
/-- _law_ticks: the slots 0 _law_state, 1 _law_many, 2 _law_way, 3 _law_part, 4 _law_found, 5 _law_k, 6 _law_burst -/
abbrev n__law_ticks : List Str := ["_law_state", "_law_many", "_law_way", "_law_part", "_law_found", "_law_k", "_law_burst"]
def t__law_ticks (K : Fg) : TS := (tSeq (tPar3 2 3 4 (tCons (tCall (sp__law_draw K) [] E0 (tCons (tVar 0) (tCons (tC (.int 4)) tNil))) (tCons (tOp oAdd (tC (.int 1)) (tCall (sp__law_draw K) [] E0 (tCons (tVar 0) (tCons (tC (.int 5)) tNil)))) (tCons (tLst tNil) tNil))))
  (tSeq (tFor (iRng1 (tCons (tVar 1) tNil)) (gName 5)
  (tSeq (tAsg (tOp (rIxL K) (tLst (tCons (tOp rEq (tOp oMod (tOp oDiv (tVar 5) (tOp oAdd (tC (.int 3)) (tVar 3))) (tC (.int 2))) (tC (.int 0))) (tCons (tOp oGt (tOp oMod (tVar 5) (tOp oMul (tC (.int 7)) (tVar 3))) (tVar 3)) tNil))) (tOp oMod (tVar 2) (tC (.int 2)))) (gName 6))
  (tDrop (tBM K "list" rAppend (tVar 4) (tCons (tIf (tTest (tOp rNe (tVar 2) (tC (.int 1)))) (tOp (rIxL K) (tLst (tCons (tOp rEq (tCall (sp__law_draw K) [] E0 (tCons (tVar 0) (tCons (tVar 3) tNil))) (tC (.int 0))) (tCons (tC (.bl true)) (tCons (tVar 6) (tCons (tVar 6) tNil))))) (tVar 2)) (tOp oLt (tVar 3) (tC (.int 5)))) tNil)))))
  (tRet (tVar 4))))
def sp__law_groups (K : Fg) : Sp := fun vs H Q _ => ∃ (W : Wd) (v : V) (bs : List Bool), W.H = H ∧ vs = [v] ∧ rep K W.B v bs ∧ bs.length ≤ 3000 ∧ ∀ u W', Grow W W' → rep K W'.B u (Zf (marksF bs)).flatten → Q u W'.H
theorem len__law_groups {K : Fg} {vs : List V} {H : Hp} {Q : VK} {E : XK} (h : sp__law_groups K vs H Q E) : vs.length = ["_law_marked"].length := by
  obtain ⟨W, v, bs, _, rfl, _⟩ := h
  rfl
/-- _law_groups: the slots 0 _law_marked, 1 _law_found, 2 _law_at, 3 _law_one, 4 _law_size, 5 _law_group, 6 _law_alike, 7 _law_elder, 8 _law_later -/
abbrev n__law_groups : List Str := ["_law_marked", "_law_found", "_law_at", "_law_one", "_law_size", "_law_group", "_law_alike", "_law_elder", "_law_later"]
def t__law_groups (K : Fg) : TS := (tSeq (tAsg (tLst tNil) (gName 1))
  (tSeq (tFor (iEnum K (tCons (tVar 0) tNil)) (gPair K 2 3)
  (tIfS (tB (tVar 3)) (tSeq (tAsg (tOp rCat (tLst (tCons (tLst (tCons (tOp oAdd (tVar 2) (tC (.int 1))) tNil)) tNil)) (tVar 1)) (gName 1))
  (tSeq (tAsg (tC (.int 1)) (gName 4))
  (tWhile (tTest (tOp oGt (tCB (rLen K) (tCons (tLc (iList K (tVar 1)) (gName 5) (tTest (tOp rEq (tCB (rLen K) (tCons (tVar 5) tNil)) (tVar 4))) (tVar 5) [5]) tNil)) (tC (.int 2))))
  (tSeq (tAsg (tLc (iList K (tVar 1)) (gName 5) (tTest (tOp rEq (tCB (rLen K) (tCons (tVar 5) tNil)) (tVar 4))) (tVar 5) [5]) (gName 6))
  (tSeq (tAsg (tOp rCat (tOp (rIxL K) (tVar 6) (tC (.int 2))) (tOp (rIxL K) (tVar 6) (tC (.int 1)))) (gName 7))
  (tSeq (tAsg (tOp rCat (tOp rCat (tLc (iList K (tVar 1)) (gName 5) (tTest (tOp oLt (tCB (rLen K) (tCons (tVar 5) tNil)) (tVar 4))) (tVar 5) [5]) (tSl (rSlL K) (tVar 6) tNoPart (tPart (tC (.int 1))))) (tLst (tCons (tVar 7) tNil))) (gName 8))
  (tSeq (tAsg (tOp rCat (tVar 8) (tLc (iList K (tVar 1)) (gName 5) (tTest (tOp oGt (tCB (rLen K) (tCons (tVar 5) tNil)) (tVar 4))) (tVar 5) [5])) (gName 1))
  (tAsg (tOp oMul (tC (.int 2)) (tVar 4)) (gName 4))))))))) tNext))
  (tRet (tVar 1))))
def sp__law_told_right (K : Fg) (C : Addr) : Sp := fun vs H Q _ => ∃ (W : Wd) (x : Addr) (va : V) (bs : List Bool), W.H = H ∧ vs = [.ref x, va] ∧ RunAt K W C x bs.length (Lf (marksF bs)) ∧ rep K W.B va bs ∧ bs.length ≤ 3000 ∧ ∀ W', Grow W W' → Q (.bl true) W'.H
theorem len__law_told_right {K : Fg} {C : Addr} {vs : List V} {H : Hp} {Q : VK} {E : XK} (h : sp__law_told_right K C vs H Q E) : vs.length = ["_law_runs", "_law_marked"].length := by
  obtain ⟨W, x, va, bs, _, rfl, _⟩ := h
  rfl
/-- _law_told_right: the slots 0 _law_runs, 1 _law_marked, 2 _law_groups_here, 3 _law_group, 4 _law_turn, 5 _law_found, 6 _law_one, 7 _law_sizes, 8 _law_size, 9 _law_last -/
abbrev n__law_told_right : List Str := ["_law_runs", "_law_marked", "_law_groups_here", "_law_group", "_law_turn", "_law_found", "_law_one", "_law_sizes", "_law_size", "_law_last"]
def t__law_told_right (K : Fg) (c_Runs : Addr) : TS := (tSeq (tAsg (tLc (iList K (tCall (sp__law_groups K) [] E0 (tCons (tVar 1) tNil))) (gName 3) tYes (tTup (tCons (tCB (rLen K) (tCons (tVar 3) tNil)) (tCons (tCB (rMax K) (tCons (tVar 3) tNil)) tNil))) [3]) (gName 2))
  (tSeq (tFor (iRng1 (tCons (tC (.int 2)) tNil)) (gName 4)
  (tSeq (tAsg (tMeth c_Runs "groups" (sp_Runs_groups K c_Runs) [] E0 (tVar 0) tNil) (gName 5))
  (tSeq (tIfS (tOr (tNot (tB (tCB (rIsi K) (tCons (tVar 5) (tCons (tC (.ty "list")) tNil))))) (tOr (tTest (tOp (rEqT K true) (tVar 5) (tVar 2))) (tTest (tOp rNe (tMeth c_Runs "now" (sp_Runs_now K c_Runs) [] E0 (tVar 0) tNil) (tCB (rLen K) (tCons (tVar 1) tNil)))))) (tRet (tC (.bl false))) tNext)
  (tSeq (tIfS (tTest (tOp (rEqT K true) (tLc (iList K (tVar 5)) (gName 6) (tNot (tB (tCB (rIsi K) (tCons (tVar 6) (tCons (tC (.ty "tuple")) tNil))))) (tVar 6) [6]) (tLst tNil))) (tRet (tC (.bl false))) tNext)
  (tDrop (tBM K "list" rAppend (tVar 5) (tCons (tTup (tCons (tC (.int 9)) (tCons (tC (.int 9)) tNil))) tNil)))))))
  (tSeq (tAsg (tLc (iList K (tVar 2)) (gPair K 8 9) tYes (tVar 8) [8, 9]) (gName 7))
  (tRet (tAndV (tOp (rEqT K false) (tVar 7) (tCB (rSortedI K) (tCons (tVar 7) tNil))) (tOp (rEqT K false) (tLc (iList K (tVar 7)) (gName 8) (tTest (tOp oGt (tBM K "list" (rCntF K) (tVar 7) (tCons (tVar 8) tNil)) (tC (.int 2)))) (tVar 8) [8]) (tLst tNil)))))))
def sp__law_whole (K : Fg) : Sp := fun vs H Q _ => ∃ (W : Wd) (v : V) (o : Odd), W.H = H ∧ vs = [v] ∧ rep K W.B v o ∧ ∀ W', Grow W W' → Q (.bl (o.isI && !o.isB)) W'.H
theorem len__law_whole {K : Fg} {vs : List V} {H : Hp} {Q : VK} {E : XK} (h : sp__law_whole K vs H Q E) : vs.length = ["_law_thing"].length := by
  obtain ⟨W, v, o, _, rfl, _⟩ := h
  rfl
/-- _law_whole: the slots 0 _law_thing -/
abbrev n__law_whole : List Str := ["_law_thing"]
def t__law_whole (K : Fg) : TS := (tRet (tAndV (tCB (rIsi K) (tCons (tVar 0) (tCons (tC (.ty "int")) tNil))) (tNotV (tCB (rIsi K) (tCons (tVar 0) (tCons (tC (.ty "bool")) tNil))))))
/-- a place, or none -/
def plcV : Option Nat → V
  | none => .non
  | some j => .int (j : Nat)
def sp__law_wrong_at (K : Fg) : Sp := fun vs H Q _ => ∃ (W : Wd) (now : Nat) (va : V) (os : List Odd), W.H = H ∧ vs = [.int now, va] ∧ rep K W.B va os ∧ os.length ≤ 6001 ∧ ∀ W', Grow W W' → Q (plcV (wrongAt now 0 os)) W'.H
theorem len__law_wrong_at {K : Fg} {vs : List V} {H : Hp} {Q : VK} {E : XK} (h : sp__law_wrong_at K vs H Q E) : vs.length = ["_law_now", "_law_ticks_here"].length := by
  obtain ⟨W, now, va, os, _, rfl, _⟩ := h
  rfl
/-- _law_wrong_at: the slots 0 _law_now, 1 _law_ticks_here, 2 _law_ahead, 3 _law_at, 4 _law_tick -/
abbrev n__law_wrong_at : List Str := ["_law_now", "_law_ticks_here", "_law_ahead", "_law_at", "_law_tick"]
def t__law_wrong_at (K : Fg) : TS := (tSeq (tAsg (tC (.int 0)) (gName 2))
  (tSeq (tFor (iEnum K (tCons (tVar 1) tNil)) (gPair K 3 4)
  (tSeq (tIfS (tOr (tNot (tB (tCall (sp__law_whole K) [] E0 (tCons (tVar 4) tNil)))) (tNot (tTest (tChain oLt oLe (tVar 2) (tVar 4) (tVar 0))))) (tRet (tVar 3)) tNext)
  (tAsg (tVar 4) (gName 2))))
  (tRet (tC .non))))
section
variable {K : Fg} {vs : List V} {H : Hp} {Q : VK} {E : XK} {C : Addr}
theorem rd_NoTick___init__ (h1 : OexC K (cErr K "NoTick")) (h2 : PySem.W.findIn K (.ref (cErr K "NoTick")) "at" = some none) (h : sp_NoTick___init__ K vs H Q E) : t_NoTick___init__ K { nx := fun _ H' => Q .non H', rt := Q } (start n_NoTick___init__ vs) H := by
  obtain ⟨a, u, rfl, ha, k⟩ := h
  exact ⟨_, rfl, _, rfl, a, _, rfl, h1, h2, .inl ⟨ha, fun dx n ne => k dx n ne⟩⟩
theorem s_raiseAt {W : Wd} {σ : SS} {ta : TA} {u : V} {D : Ends} (ht : ∀ Q : List V → Hp → Prop, Q [u] W.H → ta σ W.H Q) (k : ∀ W' d, Grow W W' → W'.H d = some (.xd [("at", u)]) → E (.ref (cErr K "NoTick")) (some d) W'.H) : BE.tRaiseI (cErr K "NoTick") (sp_NoTick___init__ K) ta E D σ W.H := by
  refine ht _ ⟨(by show 1 ≤ 1000; decide), fun a ha => ⟨a, u, rfl, upd_same, fun dx n ne => ⟨rfl, dx, [("at", u)], upd_same, (upd_ne ne).trans upd_same, (upd_ne ne).symm.trans n, ?_⟩⟩⟩
  have hdx : W.H dx = none := (upd_ne ne).symm.trans n
  let W' := W.put dx (.xd [("at", u)]) (W.free hdx)
  have g : Grow W W' := W.grow_put hdx
  have eq : upd (del (upd (upd (upd W.H a (exo a (cErr K "NoTick") none)) dx (exd dx [("at", u)])) a (exo a (cErr K "NoTick") (some dx))) a) dx (.xd [("at", u)]) = W'.H := by
    funext b
    show upd _ dx _ b = upd W.H dx _ b
    unfold upd del
    by_cases c1 : b = dx
    · simp [c1]
    · by_cases c2 : b = a
      · subst c2
        simp [c1, ha]
      · simp [c1, c2]
  rw [eq]
  exact k W' dx g upd_same
theorem kS_ti : ¬ (("tick" : Str) = "held") := by decide +kernel
theorem kS_ti2 : ¬ (("tick" : Str) = "ticks") := by decide +kernel
theorem ev_isTickO {W : Wd} {σ : SS} {ε : Ef} {ta tb tc : TE} {t : Odd} {l m : Int} (ha : EvR ε K ta σ W t) (hb : EvR ε K tb σ W l) (hc : EvR ε K tc σ W m) : EvR ε K (tCall (sp_is_tick K) [] E0 (tCons ta (tCons tb (tCons tc tNil)))) σ W (t.tick l m) :=
  ev_callP3 (P1 := fun v W => rep K W.B v t) (P2 := fun v W => rep K W.B v l) (P3 := fun v W => rep K W.B v m) ha hb hc (fun _ _ _ g h => rep_s g h) (fun _ _ _ g h => rep_s g h)
    fun v1 v2 v3 W1 g1 r1 r2 r3 Q k => ⟨W1, v1, t, l, m, rfl, by rw [show v2 = _ from r2, show v3 = _ from r3], r1, fun W2 g2 => k _ W2 (g1.rf.and g2) rfl⟩
theorem ev_isTick {W : Wd} {σ : SS} {ε : Ef} {ta tb tc : TE} {t l m : Int} (ha : EvR ε K ta σ W t) (hb : EvR ε K tb σ W l) (hc : EvR ε K tc σ W m) : EvR ε K (tCall (sp_is_tick K) [] E0 (tCons ta (tCons tb (tCons tc tNil)))) σ W (inB l m t) := ev_isTickO (t := .int t) ha hb hc
theorem tks_get {now : Int} {ts : List Int} (h : Tks now ts) {i : Nat} {t : Int} (e : ts[i]? = some t) : (0 :: ts)[i]?.getD 0 < t ∧ t ≤ now := by
  have ht := List.mem_of_getElem? e
  refine ⟨?_, (h.2 t ht).2⟩
  have h1 := h.asc
  have hi : i < ts.length := (List.getElem?_eq_some_iff.mp e).1
  have e1 : (0 :: ts)[i]? = some ((0 :: ts)[i]'(by simp; omega)) := List.getElem?_eq_getElem _
  rw [e1, Option.getD_some]
  have := List.pairwise_iff_getElem.mp h1 i (i + 1) (by simp; omega) (by simp; omega) (by omega)
  rw [List.getElem_cons_succ] at this
  rw [(List.getElem?_eq_some_iff.mp e).2] at this
  exact this
theorem look_marks (ts : List Int) (t : Int) : (klook (ts.foldl (fun kv x => kput kv x true) ([] : List (Int × Bool))) t).isSome = decide (t ∈ ts) := by
  have main : ∀ (ts : List Int) (kv : List (Int × Bool)), (klook (ts.foldl (fun kv x => kput kv x true) kv) t).isSome = ((klook kv t).isSome || decide (t ∈ ts)) := by
    intro ts
    induction ts with
    | nil => intro kv; simp
    | cons a ts ih =>
      intro kv
      rw [List.foldl_cons, ih, klook_put]
      by_cases h : t = a
      · simp [h]
      · rw [if_neg h]
        simp [h]
  rw [main]
  rfl
theorem wrong_int {now a t : Int} {os : List Odd} (h : a < t ∧ t ≤ now) : wrongAt now a (.int t :: os) = (wrongAt now t os).map (· + 1) := if_pos h
theorem wrong_no {now a : Int} {o : Odd} {os : List Odd} (h : o.tick (a + 1) now = false) : wrongAt now a (o :: os) = some 0 := by
  cases o with
  | int t =>
    refine if_neg fun z => ?_
    have : inB (a + 1) now t = true := by unfold inB; simp; omega
    rw [show Odd.tick (a + 1) now (.int t) = inB (a + 1) now t from rfl, this] at h
    cases h
  | _ => rfl
theorem tick_int {now a : Int} {o : Odd} (h : o.tick (a + 1) now = true) : ∃ t, o = .int t ∧ a < t ∧ t ≤ now := by
  cases o with
  | int t =>
    have h : inB (a + 1) now t = true := h
    unfold inB at h
    simp only [Bool.and_eq_true, decide_eq_true_eq] at h
    exact ⟨t, rfl, by omega, h.2⟩
  | _ => cases h
/-- where none is wrong, they are a past's ticks -/
theorem wrong_none : ∀ (os : List Odd) (now a : Int), wrongAt now a os = none → ∃ ts : List Int, os = ts.map Odd.int ∧ (a :: ts).Pairwise (· < ·) ∧ ∀ t ∈ ts, t ≤ now
  | [], now, a, _ => ⟨[], rfl, List.pairwise_singleton _ _, by simp⟩
  | o :: os, now, a, h => by
    cases e : o.tick (a + 1) now with
    | false => rw [wrong_no e] at h; cases h
    | true =>
      obtain ⟨t, rfl, h1, h2⟩ := tick_int e
      rw [wrong_int ⟨h1, h2⟩] at h
      obtain ⟨ts, rfl, h3, h4⟩ := wrong_none os now t (by
        cases q : wrongAt now t os with
        | none => rfl
        | some j => rw [q] at h; cases h)
      refine ⟨t :: ts, rfl, ?_, fun u hu => ?_⟩
      · refine List.pairwise_cons.mpr ⟨fun u hu => ?_, h3⟩
        rcases List.mem_cons.mp hu with e | e
        · rw [e]; exact h1
        · have := (List.pairwise_cons.mp h3).1 u e
          omega
      · rcases List.mem_cons.mp hu with e | e
        · rw [e]; exact h2
        · exact h4 u e
theorem wrong_tks {os : List Odd} {now : Int} (h : wrongAt now 0 os = none) : ∃ ts : List Int, os = ts.map Odd.int ∧ Tks now ts := by
  obtain ⟨ts, e, h1, h2⟩ := wrong_none os now 0 h
  have := List.pairwise_cons.mp h1
  exact ⟨ts, e, this.2, fun t ht => ⟨this.1 t ht, h2 t ht⟩⟩
theorem reps_odd {H : Hp} : ∀ {vs : List V} {ts : List Int}, Reps K H vs (ts.map Odd.int) → Reps K H vs ts
  | [], [], .nil => .nil
  | _ :: _, _ :: _, .cons a b => .cons a (reps_odd b)
theorem odd_reps {H : Hp} : ∀ {vs : List V} {ts : List Int}, Reps K H vs ts → Reps K H vs (ts.map Odd.int)
  | [], [], .nil => .nil
  | _ :: _, _ :: _, .cons a b => .cons a (odd_reps b)
theorem rd_runs_of (c : RunsC K C) (h : sp_runs_of K C vs H Q E) : t_runs_of K C E { nx := fun _ H' => Q .non H', rt := Q } (start n_runs_of vs) H := by
  rcases h with ⟨W, now, v, ts, rfl, rfl, rv, ht, hn, k⟩ | ⟨W, u, v, o, rfl, rfl, ru, bad, k⟩ | ⟨W, now, v, d, rfl, rfl, rv, kl, kt, k⟩ | ⟨W, now, v, os, j, rfl, rfl, rv, hl, hj, k⟩
  rotate_left
  · have isI : EvR pur K (tCB (rIsi K) (tCons (tVar 0) (tCons (tC (.ty "int")) tNil))) [some u, some v, none, none, none, none, none] W o.isI := ev_cb2 (ev_var rfl ru) ev_raw (rc_isi (b := o.isI) (fun W1 v h => ty_odd W1 v o h) (odd_kitI o))
    have isB : EvR pur K (tCB (rIsi K) (tCons (tVar 0) (tCons (tC (.ty "bool")) tNil))) [some u, some v, none, none, none, none, none] W o.isB := ev_cb2 (ev_var rfl ru) ev_raw (rc_isi (b := o.isB) (fun W1 v h => ty_odd W1 v o h) (odd_kitB o))
    refine q_when (ε := pur) (b := true) ((et_or (a := !o.isI) (b := true) (et_not (et_B isI)) fun hI => (et_or (a := o.isB) (b := true) (et_B isB) fun hB => ?_).is (by simp)).is (by simp)) trivial (fun _ W1 g1 => k W1 none g1.pure rfl) (fun z => by cases z)
    cases o with
    | int z => exact (et_test (ev_op (K := K) (ev_var (x := z) rfl ru) ev_int ro_B0)).is (decide_eq_true (bad z rfl))
    | bl _ => cases hB
    | non => cases hI
    | str _ => cases hI
    | tup _ => cases hI
    | lst _ => cases hI
    | dct => cases hI
  · have vn : ∀ {W : Wd}, rep K W.B (V.int now) (now : Int) := rfl
    refine q_when (ε := pur) (b := false) ((et_or (a := false) ((et_not (et_B (ev_cb2 (ev_var rfl vn) ev_raw (rc_isi (b := true) ty_int (by decide +kernel))))).is rfl) fun _ => et_or (a := false) (et_B (ev_cb2 (ev_var rfl vn) ev_raw (rc_isi (b := false) ty_int (by decide +kernel)))) fun _ => et_test (ev_op (ev_var rfl vn) ev_int ro_B0)).is (by simp)) trivial (fun z => by cases z) fun _ W1 g1 => ?_
    refine q_when (ε := pur) (b := true) ((et_not (et_B (ev_isi2 (b1 := false) (b2 := false) (ev_var rfl (rep_s g1 rv)) (fun W1 v h => ty_dt W1 v d h) kl kt))).is rfl) trivial (fun _ W2 g2 => s_raiseAt (u := .int 0) (fun Q q => q) fun W' dd g hd => k W' dd ((g1.pure.trans g2.pure).trans g) hd) (fun z => by cases z)
  · have vn : ∀ {W : Wd}, rep K W.B (V.int now) (now : Int) := rfl
    show t_runs_of K C E _ [some (.int now), some v, none, none, none, none, none] W.H
    refine q_when (ε := pur) (b := false) ((et_or (a := false) ((et_not (et_B (ev_cb2 (ev_var rfl vn) ev_raw (rc_isi (b := true) ty_int (by decide +kernel))))).is rfl) fun _ => et_or (a := false) (et_B (ev_cb2 (ev_var rfl vn) ev_raw (rc_isi (b := false) ty_int (by decide +kernel)))) fun _ => et_test (ev_op (ev_var rfl vn) ev_int ro_B0)).is (by simp)) trivial (fun z => by cases z) fun _ W1 g1 => ?_
    refine q_when (ε := pur) (b := false) ((et_not (et_B (ev_isi2 (b1 := true) (b2 := false) (ev_var rfl (rep_s g1 rv)) ty_lst (by decide +kernel) (by decide +kernel)))).is rfl) trivial (fun z => by cases z) fun _ W2 g2 => ?_
    refine q_asg (ε := pur) (K := K) (x := (0 : Int)) ev_int trivial fun v0 W3 g3 r0 => ?_
    have e0 : v0 = .int 0 := r0
    subst e0
    have rv3 := rep_s g3 (rep_s g2 (rep_s g1 rv))
    refine q_for (ε := pur) (K := K) (xs := (rng 0 os.length).zip os) (show EvJ pur K (BY.iEnumSeq K (tCons (tVar 1) tNil)) [some (.int now), some v, some (.int 0), none, none, none, none] W3 ((rng 0 os.length).zip os) from fun W1 g1 R k => .inl (ei_enum (xs := os) (ev_var rfl rv3) W1 g1 R k)) trivial fun W4 g4 =>
      ⟨fun i σ W' => ∃ (a : Int) (v3 v4 : Option V), σ = [some (.int now), some v, some (.int a), v3, v4, none, none] ∧ Grow W4 W' ∧ i ≤ j ∧ wrongAt now a (os.drop i) = some (j - i), ⟨0, none, none, rfl, .refl _ _, Nat.zero_le _, by simpa using hj⟩, fun i σ' W' ⟨_, _, _, _, g, _⟩ => g.on, ?_, ?_⟩
    · rintro i ⟨at', o⟩ vx σ' W5' W5 hi hx ⟨a, v3, v4, rfl, g5', hij, hw⟩ g5 rx
      rw [List.getElem?_zip_eq_some] at hx
      refine gt_p2 rx fun u1 u2 ru1 ru2 => ?_
      have hio : i < os.length := (List.getElem?_eq_some_iff.mp hx.2).1
      have hat : at' = (i : Int) := by
        have := hx.1
        rw [rng_get hio] at this
        have := Option.some.inj this
        omega
      have hd : os.drop i = o :: os.drop (i + 1) := by
        rw [List.drop_eq_getElem_cons hio]
        congr 1
        exact (List.getElem?_eq_some_iff.mp hx.2).2
      rw [hd] at hw
      have tk : EvT pur (tNot (tB (tCall (sp_is_tick K) [] E0 (tCons (tVar 4) (tCons (tOp oAdd (tVar 2) (tC (.int 1))) (tCons (tVar 0) tNil)))))) [some (.int now), some v, some (.int a), some u1, some u2, none, none] W5 (!o.tick (a + 1) now) := et_not (et_B (ev_isTickO (ev_var rfl ru2) (ev_op (ev_var (x := a) rfl rfl) ev_int ro_I0) (ev_var rfl vn)))
      have G5 := (((g1.pure.trans g2.pure).trans g3.pure).trans g4.pure).trans (g5'.trans g5)
      cases ht : o.tick (a + 1) now with
      | false =>
        rw [wrong_no ht] at hw
        have hz : j = i := by have := Option.some.inj hw; omega
        rw [ht] at tk
        refine q_when (ε := pur) (b := true) tk trivial (fun _ W6 g6 => s_raiseAt (u := .int (j : Nat)) (fun Q q => ⟨_, rfl, by
          rw [show u1 = V.int at' from ru1, hat, ← hz]; exact q⟩) fun W' dd g hd => k W' dd ((G5.trans g6.pure).trans g) hd) (fun z => by cases z)
      | true =>
        obtain ⟨t, rfl, h1, h2⟩ := tick_int ht
        rw [wrong_int ⟨h1, h2⟩] at hw
        rw [ht] at tk
        refine q_when (ε := pur) (b := false) tk trivial (fun z => by cases z) fun _ W6 g6 => ?_
        refine s_asg (ε := pur) (K := K) (x := t) (ev_var rfl (rep_s g6 (show rep K W5.B u2 t from ru2))) trivial fun v7 W7 g7 r7 => ?_
        obtain ⟨m, hm1, hm2⟩ := Option.map_eq_some_iff.mp hw
        refine ⟨W7, rfl, t, some u1, some u2, by rw [show v7 = _ from r7]; rfl, ((g5'.trans g5).trans g6.pure).trans g7.pure, by omega, ?_⟩
        rw [hm1]
        congr 1
        omega
    · rintro σ' W5 ⟨a, v3, v4, rfl, g5, hij, hw⟩
      rw [List.length_zip, rng_len, Nat.min_self, List.drop_length] at hw
      cases hw
  show t_runs_of K C E _ [some (.int now), some v, none, none, none, none, none] W.H
  have vn : ∀ {W : Wd}, rep K W.B (V.int now) (now : Int) := rfl
  have tl : ts.length ≤ 5000 := by
    have := nodup_le (asc_nodup ht.1) (m := rng 1 now) fun t h => rng_mem.mpr (by have := ht.2 t h; omega)
    rw [rng_len] at this
    omega
  refine q_when (ε := pur) (b := false) ((et_or (a := false) ((et_not (et_B (ev_cb2 (ev_var rfl vn) ev_raw (rc_isi (b := true) ty_int (by decide +kernel))))).is rfl) fun _ => et_or (a := false) (et_B (ev_cb2 (ev_var rfl vn) ev_raw (rc_isi (b := false) ty_int (by decide +kernel)))) fun _ => et_test (ev_op (ev_var rfl vn) ev_int ro_B0)).is (by simp)) trivial (fun z => by cases z) fun _ W1 g1 => ?_
  have isr : EvT pur (tNot (tB (tCB (rIsiT K) (tCons (tVar 1) (tCons (tTup (tCons (tC (.ty "list")) (tCons (tC (.ty "tuple")) tNil))) tNil))))) [some (.int now), some v, none, none, none, none, none] W1 false := by
    rcases rv with rv | rv
    · exact (et_not (et_B (ev_isi2 (b1 := true) (b2 := false) (ev_var rfl (rep_s g1 rv)) ty_lst (by decide +kernel) (by decide +kernel)))).is rfl
    · exact (et_not (et_B (ev_isi2 (b1 := false) (b2 := true) (ev_var rfl (rep_s g1 rv)) ty_tup (by decide +kernel) (by decide +kernel)))).is rfl
  refine q_when (ε := pur) (b := false) isr trivial (fun z => by cases z) fun _ W2 g2 => ?_
  have rv2 : rep K W2.B v ts ∨ rep K W2.B v (Tup.mk ts) := rv.imp (fun r => rep_s g2 (rep_s g1 r)) fun r => rep_s g2 (rep_s g1 r)
  refine q_asg (ε := pur) (K := K) (x := (0 : Int)) ev_int trivial fun v0 W3 g3 r0 => ?_
  have e0 : v0 = .int 0 := r0
  subst e0
  -- for at, tick in enumerate(ticks)
  refine q_for (ε := pur) (K := K) (xs := (rng 0 ts.length).zip ts) (show EvJ pur K (BY.iEnumSeq K (tCons (tVar 1) tNil)) [some (.int now), some v, some (.int 0), none, none, none, none] W3 ((rng 0 ts.length).zip ts) from fun W1 g1 R k => rv2.elim (fun r => .inl (ei_enum (xs := ts) (ev_var rfl (rep_s g3 r)) W1 g1 R k)) fun r => .inr (ei_enumT (xs := Tup.mk ts) (ev_var rfl (rep_s g3 r)) W1 g1 R k)) trivial fun W4 g4 =>
    ⟨fun i σ W' => ∃ v3 v4 : Option V, σ = [some (.int now), some v, some (.int ((0 :: ts)[i]?.getD 0)), v3, v4, none, none] ∧ Grow W4 W', ⟨none, none, rfl, .refl _ _⟩, fun i σ' W' ⟨_, _, _, g⟩ => g.on, ?_, ?_⟩
  · rintro i ⟨at', t⟩ vx σ' W5' W5 hi hx ⟨v3, v4, rfl, g5'⟩ g5 rx
    rw [List.getElem?_zip_eq_some] at hx
    refine gt_p2 rx fun u1 u2 ru1 ru2 => ?_
    have hg := tks_get ht hx.2
    refine q_when (ε := pur) (b := false) ((et_not (et_B (ev_isTick (ev_var rfl ru2) (ev_op (ev_var (x := (0 :: ts)[i]?.getD 0) rfl rfl) ev_int ro_I0) (ev_var rfl vn)))).is ?_) trivial (fun z => by cases z) fun _ W6 g6 => ?_
    · have : inB ((0 :: ts)[i]?.getD 0 + 1) (now : Int) t = true := by unfold inB; simp; omega
      rw [this]
      rfl
    refine s_asg (ε := pur) (K := K) (x := t) (ev_var rfl (rep_s g6 ru2)) trivial fun v7 W7 g7 r7 => ⟨W7, rfl, some u1, some u2, ?_, ((g5'.trans g5).trans g6.pure).trans g7.pure⟩
    rw [show v7 = _ from r7, List.getElem?_cons_succ, hx.2]
    rfl
  rintro σ' W5 ⟨v3, v4, rfl, g5⟩
  have rv5 : rep K W5.B v ts ∨ rep K W5.B v (Tup.mk ts) := rv2.imp (fun r => rep_g g5 (rep_s g4 (rep_s g3 r))) fun r => rep_g g5 (rep_s g4 (rep_s g3 r))
  -- found, marks = Runs(), {..}
  intro x dx hx hdx hne
  have g6 : Grow W5 (W5.put dx (.own x) (W5.free hdx)) := W5.grow_put hdx
  have hx6 : (W5.put dx (.own x) (W5.free hdx)).H x = none := (upd_ne hne.symm).trans hx
  have g7 := (W5.put dx (.own x) (W5.free hdx)).grow_put (o := .ins C dx []) hx6
  have hb7 : ((W5.put dx (.own x) (W5.free hdx)).put x (.ins C dx []) (Wd.free _ hx6)).B x = none := W5.free hx
  have hh7 : ((W5.put dx (.own x) (W5.free hdx)).put x (.ins C dx []) (Wd.free _ hx6)).H x = some (.ins C dx []) := upd_same
  refine ⟨_, x, dx, rfl, rfl, hb7, hh7, fun W8 g8 r8 => ⟨rfl, ?_⟩⟩
  have G8 : Grow W5 W8 := Md.fresh (S := []) (g6.trans g7) g8 hx
  have rv8 : rep K W8.B v ts ∨ rep K W8.B v (Tup.mk ts) := rv5.imp (fun r => rep_g G8 r) fun r => rep_g G8 r
  refine ed_dcN (ε := pur) (K := K) (κ := Int) (β := Bool) (xs := ts) (f := fun t => t) (g := fun _ => true) (EvJ.i (show EvJ pur K (BY.iSeq K (tVar 1)) _ W8 ts from fun W1 g1 R k => rv8.elim (fun r => ei_seqL (ev_var rfl r) W1 g1 R k) fun r => ei_seqT (xs := Tup.mk ts) (ev_var rfl r) W1 g1 R k)) (fun t v W' ht g r => ek_int (ev_var rfl r)) (fun t v W' ht g r => ev_bl) (by omega) W8 (.start trivial) _ fun d W9 g9 hd dm => ?_
  refine ⟨_, _, rfl, ?_⟩
  have r9 := r8.gr g9.pure
  have ndx : d ≠ x := fun z => by
    obtain ⟨_, _, h, _⟩ := r8.ex
    rw [z, h] at hd
    cases hd
  -- for tick in range(1, now + 1)
  refine q_for (ε := pur) (K := K) (xs := rng 1 now) (EvJ.toIs (ei_rng2 (m := 1) (n := (now : Int) + 1) ev_int (ev_op (ev_var rfl vn) ev_int ro_I0) (by omega)) (by congr 1; omega)) trivial fun W10 g10 =>
    ⟨fun i σ W' => ∃ v4 : Option V, σ = [some (.int now), some v, some (.int ((0 :: ts)[((rng 0 ts.length).zip ts).length]?.getD 0)), v3, v4, some (.ref x), some (.ref d)] ∧ Md [x] W10 W' ∧ RunAt K W' C x i (Lof 0 i ts []), ⟨v4, rfl, .refl _ _, r9.gr g10.pure⟩, fun i σ' W' ⟨_, _, g, _⟩ => g.on, ?_, ?_⟩
  · rintro i t vx σ' W11' W11 hi hxi ⟨v4, rfl, g11', r11'⟩ g11 rx
    rw [rng_len] at hi
    rw [rng_get hi] at hxi
    cases hxi
    have r11 := r11'.gr g11
    obtain ⟨dy, vh, hxx, _⟩ := r11.ex
    have dm11 : DMut K W11 d (ts.foldl (fun kv x => kput kv x true) ([] : List (Int × Bool))) := ((dm.gr g10.pure).g g11' (by simpa using ndx)).gr g11
    obtain ⟨ks, ek, rk⟩ := dm11.ex
    refine ⟨_, rfl, x, dy, _, rfl, hxx, rf_no kS_ti kS_ti2, _, rfl, _, rfl, d, (valV ks (PyKey.key (1 + (i : Int)))), rfl, .inl ⟨ks, PyKey.key (1 + (i : Int)), .inl ek, rx, rfl⟩, ?_⟩
    have em : (valV ks (PyKey.key (1 + (i : Int)))).isSome = decide ((1 + (i : Int)) ∈ ts) := by
      rw [← look_marks]
      rcases klk rk (1 + (i : Int)) with ⟨h1, h2⟩ | ⟨y, v, h1, h2, _⟩ <;> rw [h1, h2] <;> rfl
    refine .inl ⟨W11, x, i, Lof 0 i ts [], _, rfl, rfl, r11, by omega, fun W12 g12 r12 => ⟨W12, rfl, _, rfl, (g11'.trans (Grow.s g11)).trans g12, ?_⟩⟩
    rw [em] at r12
    rw [lof_succ]
    have ec : ((i + 1 : Nat) : Int) = 0 + 1 + (i : Int) := by omega
    have ec2 : (1 + (i : Int)) = 0 + 1 + (i : Int) := by omega
    rw [ec, ec2] at r12
    by_cases hm : (0 + 1 + (i : Int)) ∈ ts
    · rw [if_pos hm]
      rw [decide_eq_true hm] at r12
      exact r12
    · rw [if_neg hm]
      rw [decide_eq_false hm] at r12
      exact r12
  · rintro σ' W11 ⟨v4, rfl, g11, r11⟩
    rw [rng_len, ht.led] at r11
    refine ⟨_, rfl, ?_⟩
    have G5 : Grow W W5 := (((g1.pure.trans g2.pure).trans g3.pure).trans g4.pure).trans g5
    have Gx : Grow W W8 := G5.trans G8
    have hxW : W.H x = none := by
      cases q : W.H x with
      | none => rfl
      | some o => exact absurd hx (G5.d x (by rw [q]; exact fun z => by cases z))
    exact k x W11 (Md.fresh (S := []) ((Gx.trans g9.pure).trans g10.pure) g11 hxW) hxW r11
end
end B
/-! k58: the law's helpers -/
namespace B
open PySem L2
open PySem.W (Tup T3 T4 Datum DatumOrd)
open Evl (Ex)
section
variable {K : Fg} {vs : List V} {H : Hp} {Q : VK} {E : XK} {C : Addr}
theorem ev_draw' {K : Fg} {W : Wd} {σ : SS} {te : TE} {i : Nat} {p : Addr} {n : Int} (h1 : σ[i]? = some (some (.ref p))) (hn : EvR (drd K p) K te σ W n) (h0 : 0 < n) (h2 : n < 1073741824) :
    EvX (drd K p) K (tCall (sp__law_draw K) [] E0 (tCons (tVar i) (tCons te tNil))) σ W (fun r : Int => 0 ≤ r ∧ r < n) := fun W1 g1 Q k =>
  ev_draw h1 hn h0 h2 W1 g1 Q fun v W2 g2 ⟨r, e, h⟩ => k v W2 g2 ⟨r, h, e⟩
theorem q_parR3 {i j l : Nat} {ta tb tc : TE} {tz : TS} {D : Ends} {σ : SS} {H : Hp} (h : ta σ H fun v H1 => tb σ H1 fun u H2 => tc σ H2 fun w H3 => ∃ x y z, [v, u, w] = [x, y, z] ∧ tz D (((σ.set i (some x)).set j (some y)).set l (some z)) H3) : tSeq (tPar3 i j l (tCons ta (tCons tb (tCons tc tNil)))) tz D σ H := h
/-- xs.append(e), e drawn -/
theorem s_appendX {α : Type} [Py α] {W : Wd} {σ : SS} {D : Ends} {xs : List α} {P : α → Prop} {i : Nat} {d : Addr} {te : TE} {ε : Ef} (hd : σ[i]? = some (some (.ref d))) (m : LMut K W d xs) (hS : d ∉ ε.S) (s : ε.I W) (h : EvX ε K te σ W P) (hl : xs.length < 100000)
    (q : ∀ (y : α) (W1 W' : Wd), P y → Stp ε W W1 → Md [d] W1 W' → LMut K W' d (xs ++ [y]) → D.nx σ W'.H) : tDrop (tBM K "list" rAppend (tVar i) (tCons te tNil)) D σ W.H := by
  obtain ⟨vs, e, r⟩ := m.ex
  refine ⟨_, hd, .inl ⟨rfl, vs, SqL.of e⟩, h W (.start s) _ fun v W1 g1 ⟨y, hy, rv⟩ => ?_⟩
  obtain ⟨vs1, e1, r1⟩ := (m.g g1.md hS).ex
  have b1 := (m.g g1.md hS).b
  exact ⟨d, vs1, v, rfl, rfl, e1, by rw [Reps.len r1]; exact Evl.sz_lt hl, q y W1 (W1.put d _ b1) hy g1 (md_put b1) ⟨b1, _, upd_same, Reps.snoc r1 rv⟩⟩
theorem ex_ixX' {α : Type} [Py α] {W : Wd} {σ : SS} {ta tb : TE} {ε : Ef} {n : Nat} {P : α → Prop} (h : EvX ε K ta σ W (fun xs : List α => xs.length = n ∧ ∀ x ∈ xs, P x)) (hi : EvX ε K tb σ W (fun r : Int => 0 ≤ r ∧ r < n)) : EvX ε K (tOp (rIxL K) ta tb) σ W P :=
  ex_op h hi fun xs r ⟨hl, hp⟩ ⟨h0, h1⟩ => by
    obtain ⟨j, hj⟩ : ∃ j : Nat, r = (j : Int) := ⟨r.toNat, by omega⟩
    have hjl : j < xs.length := by omega
    exact ⟨xs[j], hp _ (List.getElem_mem _), ro_ixL (K := K) (x := xs[j]) (i := r) (by rw [hj]; exact atI_nat (List.getElem?_eq_getElem hjl))⟩
theorem rd__law_ticks (h : sp__law_ticks K vs H Q E) : t__law_ticks K { nx := fun _ H' => Q .non H', rt := Q } (start n__law_ticks vs) H := by
  obtain ⟨W, p, n, rfl, rfl, s, hn, k⟩ := h
  show tSeq _ _ _ [some (.ref p), some (.int n), none, none, none, none, none] W.H
  have vn : ∀ {W : Wd}, rep K W.B (V.int n) (n : Int) := rfl
  refine q_parR3 ?_
  refine ev_draw (K := K) (σ := [some (.ref p), some (.int n), none, none, none, none, none]) (i := 0) (p := p) (n := 4) rfl ev_int (by decide) (by decide) W (.start s) _ fun v1 W1 g1 ⟨way, e1, w0, w1⟩ => ?_
  subst e1
  refine ep_add (m := 1) (P := fun r => 0 ≤ r ∧ r < 5) (ev_draw (K := K) (σ := [some (.ref p), some (.int n), none, none, none, none, none]) (i := 0) (p := p) (n := 5) rfl ev_int (by decide) (by decide)) W1 (.start g1.i) _ fun v2 W2 g2 ⟨part, e2, p0, p1⟩ => ?_
  subst e2
  refine en_lst (ε := pur) (K := K) (α := Bool) (σ := [some (.ref p), some (.int n), none, none, none, none, none]) ea_nil (by decide) W2 (.start trivial) _ fun d vs3 W3 g3 f3 b3 h3 rs3 => ⟨_, _, _, rfl, ?_⟩
  have m3 : LMut K W3 d ([] : List Bool) := ⟨b3, vs3, h3, rs3⟩
  have s2 : Sd K W2 p := g2.i
  have s3 := s2.g g3.pure
  have ndp : d ≠ p := fun z => s2.dom (z ▸ f3)
  have g12 := g1.trans g2
  have fd : W.H d = none := by
    cases z : W.H d with
    | none => rfl
    | some o => exact absurd f3 (g12.md.d d (by rw [z]; exact fun y => by cases y))
  show tSeq _ _ _ [some (.ref p), some (.int n), some (.int way), some (.int (1 + part)), some (.ref d), none, none] W3.H
  have vw : ∀ {W : Wd}, rep K W.B (V.int way) way := rfl
  have vp : ∀ {W : Wd}, rep K W.B (V.int (1 + part)) (1 + part) := rfl
  refine q_for (ε := pur) (K := K) (xs := rng 0 n) (EvJ.toIs (ei_rng1 (n := (n : Int)) (ev_var rfl vn) (by omega) (by omega)) (by congr 1)) trivial fun W4 g4 =>
    ⟨fun i σ W' => ∃ (v5 v6 : Option V) (bs : List Bool), σ = [some (.ref p), some (.int n), some (.int way), some (.int (1 + part)), some (.ref d), v5, v6] ∧ On W4 W' ∧ Md [p] W W' ∧ Sd K W' p ∧ LMut K W' d bs ∧ bs.length = i,
      ⟨none, none, [], rfl, .refl _, (g12.md.trans (Grow.s g3.pure)).trans (Grow.s g4.pure), s3.g g4.pure, m3.gr g4.pure, rfl⟩, fun i σ' W' ⟨_, _, _, _, o, _⟩ => o, ?_, ?_⟩
  · rintro i t vx σ' W5' W5 hi hxi ⟨v5, v6, bs, rfl, o5', G5', s5', m5', hbl⟩ g5 rx
    rw [rng_len] at hi
    have s5 := s5'.g g5
    have m5 := m5'.gr g5
    have o5 := o5'.trans g5.on
    have G5 := G5'.trans (Grow.s g5)
    have e01 : way % 2 = 0 ∨ way % 2 = 1 := by omega
    obtain ⟨bb, hbb⟩ : ∃ bb : Bool, atI [decide (t / (3 + (1 + part)) % 2 = 0), decide (1 + part < t % (7 * (1 + part)))] (way % 2) = some bb := by
      rcases e01 with e | e
      · rw [e]; exact ⟨_, atI_nat (j := 0) rfl⟩
      · rw [e]; exact ⟨_, atI_nat (j := 1) rfl⟩
    show tSeq _ _ _ [some (.ref p), some (.int n), some (.int way), some (.int (1 + part)), some (.ref d), some vx, v6] W5.H
    refine q_asg (ε := pur) (K := K) (x := bb) (ev_op (ev_lst (ea_cons (ev_op (ev_op (ev_op (ev_var (i := 5) rfl rx) (ev_op ev_int (ev_var (i := 3) rfl vp) ro_I0) (ro_I ⟨by omega, by omega⟩)) ev_int (ro_I (by decide))) ev_int ro_eqI) (ea_cons (ev_op (ev_op (ev_var (i := 5) rfl rx) (ev_op ev_int (ev_var (i := 3) rfl vp) (ro_I (.inl ⟨by decide, by decide⟩))) (ro_I (by omega))) (ev_var (i := 3) rfl vp) ro_B0) ea_nil)) (by show 2 ≤ 100000; decide)) (ev_op (ev_var (i := 2) rfl vw) ev_int (ro_I (by decide))) (ro_ixL hbb)) trivial fun vb W6 g6 rb => ?_
    have s6 := s5.g g6.pure
    have m6 := m5.gr g6.pure
    have hd6 : d ∉ (drd K p).S := by simp [drd, ndp]
    show tDrop _ _ [some (.ref p), some (.int n), some (.int way), some (.int (1 + part)), some (.ref d), some vx, some vb] W6.H
    refine s_appendX (K := K) (α := Bool) (P := fun _ => True) (ε := drd K p) (i := 4) rfl m6 hd6 s6 (ex_if (b := !decide (way = 1)) (et_test (ev_op (ev_var (i := 2) rfl vw) ev_int ro_neI))
      (fun _ => ex_ixX' (n := 4) (ex_lst (exa_cons (EvP.imp (ep_eq K (P := fun r => 0 ≤ r ∧ r < 1 + part) (ev_draw (i := 0) (p := p) (n := 1 + part) rfl (ev_var (i := 3) rfl vp) (by omega) (by omega))) fun v W ⟨b, e⟩ => ⟨b, trivial, e⟩) (exa_cons (ex_of ev_bl trivial) (exa_cons (ex_of (ev_var (i := 6) rfl rb) trivial) (exa_cons (ex_of (ev_var (i := 6) rfl rb) trivial) exa_nil)))) (by decide)) (ex_of (ev_var (i := 2) rfl vw) ⟨by omega, by omega⟩))
      (fun _ => ex_of (ev_op (ev_var (i := 3) rfl vp) ev_int ro_B0) trivial)) (by omega) fun y W7 W8 _ g7 g8 m8 => ?_
    refine ⟨W8, rfl, _, _, bs ++ [y], rfl, o5.trans (g6.on.trans (g7.on.trans g8.on)), Md.fresh ((G5.trans (Grow.s g6.pure)).trans g7.md) (g8.mono (by simp)) fd, (show Sd K W7 p from g7.i).off g8 (by simpa using ndp.symm), m8, by simp [hbl]⟩
  · rintro σ' W5 ⟨v5, v6, bs, rfl, o5, G5, s5, m5, hbl⟩
    rw [rng_len] at hbl
    obtain ⟨ob, hob, rp, ex, md⟩ := m5.fix
    refine ⟨_, rfl, k _ bs (W5.fix d ob hob) (md W [p] G5 fd) ?_ rp hbl⟩
    obtain ⟨cv, cs, a, r, t, m, s'⟩ := s5.ex
    exact ⟨cv, cs, a, r, t, m, (upd_ne ndp.symm).trans s'.b, s'.h, rex ex s'.c, s'.l, s'.pos, s'.a0, s'.r0, s'.t0, s'.m0⟩
theorem gfilt {pre : List (List Int)} {t : List Int} {l : List (List Int)} {r : List (List (List Int))} {s : Nat} (hs : 1 ≤ s) (hp : ∀ g ∈ pre, g.length < s) (ht : t.length = s) (hl : ∀ g ∈ l, g.length = s) (hr : SzG (2 * s) r) :
    (pre ++ t :: (l ++ r.flatten)).filter (fun g => decide ((g.length : Int) = s)) = t :: l ∧ (pre ++ t :: (l ++ r.flatten)).filter (fun g => decide ((g.length : Int) < s)) = pre ∧ (pre ++ t :: (l ++ r.flatten)).filter (fun g => decide ((s : Int) < (g.length : Int))) = r.flatten := by
  have hge := zf_ge hr
  have none' : ∀ {p : List Int → Bool} {L : List (List Int)}, (∀ g ∈ L, p g = false) → L.filter p = [] := fun h => List.filter_eq_nil_iff.mpr fun g hg z => by rw [h g hg] at z; cases z
  have all' : ∀ {p : List Int → Bool} {L : List (List Int)}, (∀ g ∈ L, p g = true) → L.filter p = L := fun h => List.filter_eq_self.mpr h
  refine ⟨?_, ?_, ?_⟩
  · rw [List.filter_append, none' (L := pre) (fun g hg => decide_eq_false (by have := hp g hg; omega)), List.nil_append, List.filter_cons, if_pos (decide_eq_true (by omega)), List.filter_append, all' (L := l) (fun g hg => decide_eq_true (by have := hl g hg; omega)), none' (L := r.flatten) (fun g hg => decide_eq_false (by have := hge g hg; omega)), List.append_nil]
  · rw [List.filter_append, all' (L := pre) (fun g hg => decide_eq_true (by have := hp g hg; omega)), List.filter_cons, if_neg (by simp; omega), List.filter_append, none' (L := l) (fun g hg => decide_eq_false (by have := hl g hg; omega)), none' (L := r.flatten) (fun g hg => decide_eq_false (by have := hge g hg; omega)), List.append_nil, List.append_nil]
  · rw [List.filter_append, none' (L := pre) (fun g hg => decide_eq_false (by have := hp g hg; omega)), List.nil_append, List.filter_cons, if_neg (by simp; omega), List.filter_append, none' (L := l) (fun g hg => decide_eq_false (by have := hl g hg; omega)), all' (L := r.flatten) (fun g hg => decide_eq_true (by have := hge g hg; omega)), List.nil_append]
theorem rd__law_groups (h : sp__law_groups K vs H Q E) : t__law_groups K { nx := fun _ H' => Q .non H', rt := Q } (start n__law_groups vs) H := by
  obtain ⟨W, va, bs, rfl, rfl, rva, hl, k⟩ := h
  show tSeq _ _ _ [some va, none, none, none, none, none, none, none, none] W.H
  refine q_asg (ε := pur) (K := K) (x := ([] : List (List Int))) (ev_lst ea_nil (by decide)) trivial fun v1 W1 g1 r1 => ?_
  have flen : ∀ p : List Int, (Zf p).flatten.length ≤ p.length := fun p => by
    have h := (zf_ok p)
    have e := h.al
    have hge := zf_ge h.sz
    have : ∀ L : List (List Int), (∀ g ∈ L, 1 ≤ g.length) → L.length ≤ L.flatten.length := fun L => by
      induction L with
      | nil => intro _; exact Nat.le_refl _
      | cons g L ih =>
        intro hL
        have := ih fun g hg => hL g (List.mem_cons_of_mem _ hg)
        have := hL g List.mem_cons_self
        rw [List.flatten_cons, List.length_append, List.length_cons]
        omega
    have h1 := this (Zf p).flatten.reverse fun g hg => hge g (List.mem_reverse.mp hg)
    rw [List.length_reverse] at h1
    have h2 : ((Zf p).flatten.reverse.flatten).length = p.length := congrArg List.length e
    omega
  have mlen : ∀ (L : List Bool), (marksF L).length ≤ L.length := fun L => by
    unfold marksF
    rw [List.length_map]
    refine Nat.le_trans (List.length_filter_le _ _) ?_
    rw [List.length_zip, rng_len, Nat.min_self]
    exact Nat.le_refl _
  show tSeq _ _ _ [some va, some v1, none, none, none, none, none, none, none] W1.H
  refine q_for (ε := pur) (K := K) (xs := (rng 0 bs.length).zip bs) (ei_enum (ev_var (i := 0) rfl (rep_s g1 rva))) trivial fun W2 g2 =>
    ⟨fun i σ W' => ∃ (u : V) (v2 v3 v4 v5 v6 v7 v8 : Option V), σ = [some va, some u, v2, v3, v4, v5, v6, v7, v8] ∧ Grow W2 W' ∧ rep K W'.B u (Zf (marksF (bs.take i))).flatten, ⟨v1, none, none, none, none, none, none, none, rfl, .refl _ _, rep_s g2 r1⟩, fun i σ' W' ⟨_, _, _, _, _, _, _, _, _, g, _⟩ => g.on, ?_, ?_⟩
  · rintro i ⟨a, b⟩ vx σ' W3' W3 hi hx ⟨u, v2, v3, v4, v5, v6, v7, v8, rfl, g3', ru'⟩ g3 rx
    rw [List.getElem?_zip_eq_some] at hx
    have hib : i < bs.length := (List.getElem?_eq_some_iff.mp hx.2).1
    have ha : a = (i : Int) := by
      have := hx.1
      rw [rng_get hib] at this
      have := Option.some.inj this
      omega
    subst ha
    have tk : bs.take (i + 1) = bs.take i ++ [b] := by rw [List.take_add_one, hx.2]; rfl
    have tl : (bs.take i).length = i := by rw [List.length_take]; omega
    have ru := rep_g g3 ru'
    refine gt_p2 rx fun u1 u2 ru1 ru2 => ?_
    show tIfS (tB (tVar 3)) _ _ _ [some va, some u, some u1, some u2, v4, v5, v6, v7, v8] W3.H
    have G3 := g3'.trans g3
    refine s_if (ε := pur) (b := b) (et_B (K := K) (ev_var (i := 3) rfl ru2)) trivial (fun hb W4 g4 => ?_) (fun hb W4 g4 => ?_)
    · subst hb
      let Z := Zf (marksF (bs.take i))
      have z := zf_ok (marksF (bs.take i))
      have zl : Z.flatten.length ≤ 3000 := Nat.le_trans (flen _) (Nat.le_trans (mlen _) (by omega))
      have ru4 := rep_s g4 ru
      refine q_asg (ε := pur) (K := K) (x := [[(i : Int) + 1]] ++ Z.flatten) (ev_op (ev_lst (ea_cons (ev_lst (ea_cons (ev_op (ev_var (i := 2) rfl (rep_s g4 ru1)) ev_int ro_I0) ea_nil) (by show 1 ≤ 100000; decide)) ea_nil) (by show 1 ≤ 100000; decide)) (ev_var (i := 1) rfl ru4) (ro_cat (by show 1 + Z.flatten.length ≤ 100000; omega))) trivial fun u5 W5 g5 r5 => ?_
      refine q_asg (ε := pur) (K := K) (x := (1 : Int)) ev_int trivial fun v5' W6 g6 e6 => ?_
      rw [show v5' = V.int 1 from e6]
      show tWhile _ _ _ [some va, some u5, some u1, some u2, some (.int 1), v5, v6, v7, v8] W6.H
      have G6 := ((G3.trans g4.pure).trans g5.pure).trans g6.pure
      have en : Zf (marksF (bs.take (i + 1))) = insG [(i : Int) + 1] Z := by
        rw [tk, marks_snoc, tl, if_pos rfl, zf_snoc]
        rfl
      refine s_while (ε := pur) (fun m σ' W' => ∃ (s : Nat) (pre : List (List Int)) (t : List Int) (R : List (List (List Int))) (u : V) (v5 v6 v7 v8 : Option V), σ' = [some va, some u, some u1, some u2, some (.int (s : Nat)), v5, v6, v7, v8] ∧ Grow W2 W' ∧ rep K W'.B u (pre ++ t :: R.flatten) ∧ 1 ≤ s ∧ (∀ g ∈ pre, g.length < s) ∧ t.length = s ∧ SzG s R ∧ ZOk R ∧ pre ++ (insG t R).flatten = (insG [(i : Int) + 1] Z).flatten ∧ (pre ++ t :: R.flatten).length ≤ 3001 ∧ (pre ++ t :: R.flatten).flatten.length ≤ 3001 ∧ m = R.length) Z.length
        ⟨1, [], [(i : Int) + 1], Z, u5, v5, v6, v7, v8, rfl, G6, rep_s g6 r5, Nat.le_refl 1, by simp, rfl, z.sz, z.ok, rfl, by rw [List.nil_append, List.length_cons]; omega, by
          rw [List.nil_append, List.flatten_cons, List.length_append]
          have h2 : (Z.flatten.reverse.flatten).length = (marksF (bs.take i)).length := congrArg List.length z.al
          have h3 : Z.flatten.flatten.length = Z.flatten.reverse.flatten.length := (List.reverse_perm Z.flatten).symm.flatten.length_eq
          have h4 := mlen (bs.take i)
          show 1 + Z.flatten.flatten.length ≤ 3001
          omega, rfl⟩ ?_
      rintro m σ' W7 ⟨s, pre, t, R, u, v5, v6, v7, v8, rfl, G7, r7, hs, hpre, ht, hR, hok, hfin, hlen, hfl, rfl⟩
      have vs : ∀ {W : Wd}, rep K W.B (V.int (s : Nat)) ((s : Nat) : Int) := rfl
      have glen : ∀ g ∈ pre ++ t :: R.flatten, g.length ≤ 3001 := fun g hg => Nat.le_trans (List.Sublist.length_le (List.sublist_flatten_of_mem hg)) hfl
      have cmp : ∀ {σ : SS} {W : Wd} {xs : List (List Int)} {p : List Int → Bool} {tt : TT}, xs.length ≤ 3001 → σ[1]? = some (some u) → rep K W.B u xs → (∀ g v W', g ∈ xs → Stp pur W W' → rep K W'.B v g → EvT pur tt ((wipe σ [5]).set 5 (some v)) W' (p g)) → (∀ v : V, ((wipe σ [5]).set 5 (some v))[5]? = some (some v)) → EvR pur K (tLc (iList K (tVar 1)) (gName 5) tt (tVar 5) [5]) σ W (xs.filter p) := fun {σ W xs p tt} hx h1 r h h5 =>
        (ev_lcNt (K := K) (α := List Int) (p := p) (f := fun g => g) (EvJ.i (ei_list (ev_var (i := 1) h1 r))) h (fun g v W' hg _ gg rg => ev_var (i := 5) (h5 v) rg) (by omega)).is (by rw [List.map_id'])
      let σ7 : SS := [some va, some u, some u1, some u2, some (.int (s : Nat)), v5, v6, v7, v8]
      have eqT : ∀ {W : Wd} {w6 w7 w8 : Option V} {v5 : Option V} (g : List Int) (v : V) (W' : Wd), Stp pur W W' → rep K W'.B v g → EvT pur (tTest (tOp rEq (tCB (rLen K) (tCons (tVar 5) tNil)) (tVar 4))) ((wipe [some va, some u, some u1, some u2, some (.int (s : Nat)), v5, w6, w7, w8] [5]).set 5 (some v)) W' (decide ((g.length : Int) = (s : Int))) := fun g v W' _ rg => et_test (ev_op (ev_cb1 (ev_var (i := 5) rfl rg) rc_len) (ev_var (i := 4) rfl vs) ro_eqI)
      refine ⟨trivial, decide ((2 : Int) < (((pre ++ t :: R.flatten).filter fun g => decide ((g.length : Int) = (s : Int))).length : Int)), et_test (ev_op (ev_cb1 (cmp hlen rfl r7 (fun g v W' hg gg rg => eqT g v W' gg rg) (fun _ => rfl)) rc_len) ev_int ro_B0), ?_⟩
      have done : ∀ W8, Stp pur W7 W8 → (insG t R).flatten = t :: R.flatten → ∃ W, W.H = W8.H ∧ ∃ (u : V) (v2 v3 v4 v5 v6 v7 v8 : Option V), σ7 = [some va, some u, v2, v3, v4, v5, v6, v7, v8] ∧ Grow W2 W ∧ rep K W.B u (Zf (marksF (bs.take (i + 1)))).flatten := fun W8 g8 e =>
        ⟨W8, rfl, u, _, _, _, _, _, _, _, rfl, G7.trans g8.pure, by rw [en, ← hfin, e]; exact rep_s g8 r7⟩
      match R, hR, hok, hfin, done, r7, hlen, hfl, glen with
      | [], _, _, _, done, r7, _, _, _ =>
        refine ⟨fun hb => ?_, fun hb W8 g8 => done W8 g8 rfl⟩
        have := (gfilt (pre := pre) (t := t) (l := []) (r := []) hs hpre ht (by simp) True.intro).1
        have hb := of_decide_eq_true hb
        simp only [List.flatten_nil, List.append_nil] at this hb
        rw [this] at hb
        simp at hb
      | [a] :: R, hR, _, _, done, r7, _, _, _ =>
        refine ⟨fun hb => ?_, fun hb W8 g8 => done W8 g8 rfl⟩
        have := (gfilt (pre := pre) (t := t) (l := [a]) (r := R) hs hpre ht hR.1 hR.2).1
        have hb := of_decide_eq_true hb
        rw [List.flatten_cons, this] at hb
        simp at hb
      | [] :: R, _, hok, _, _, _, _, _, _ =>
        have := hok [] List.mem_cons_self
        simp at this
      | (a :: b :: c' :: d) :: R, _, hok, _, _, _, _, _, _ =>
        have := hok _ List.mem_cons_self
        simp at this
      | [a, b] :: R, hR, hok, hfin, _, r7, hlen, hfl, glen =>
        obtain ⟨f1, f2, f3⟩ := gfilt (pre := pre) (t := t) (l := [a, b]) (r := R) hs hpre ht hR.1 hR.2
        have la := hR.1 a (by simp)
        have lb := hR.1 b (by simp)
        refine ⟨fun _ W8 g8 => ?_, fun hb => ?_⟩
        rotate_left
        · have hb := of_decide_eq_false hb
          rw [List.flatten_cons, f1] at hb
          simp at hb
        rw [List.flatten_cons] at r7 hlen hfl glen
        have r8 := rep_s g8 r7
        have G8 := G7.trans g8.pure
        show tSeq _ _ _ [some va, some u, some u1, some u2, some (.int (s : Nat)), v5, v6, v7, v8] W8.H
        refine q_asg (ε := pur) (K := K) (x := [t, a, b]) ((cmp hlen rfl r8 (fun g v W' hg gg rg => eqT g v W' gg rg) (fun _ => rfl)).is f1) trivial fun v6' W9 g9 r9 => ?_
        refine q_asg (ε := pur) (K := K) (x := b ++ a) (ev_op (ev_op (ev_var (i := 6) rfl r9) ev_int (ro_ixL (x := b) (atI_nat (j := 2) rfl))) (ev_op (ev_var (i := 6) rfl r9) ev_int (ro_ixL (x := a) (atI_nat (j := 1) rfl))) (ro_cat (by
          have := glen a (by simp)
          have := glen b (by simp)
          omega))) trivial fun v7' W10 g10 r10 => ?_
        have rr10 := rep_s g10 (rep_s g9 r8)
        have ltT : ∀ {W : Wd} {w6 w7 w8 v5 : Option V} (g : List Int) (v : V) (W' : Wd), Stp pur W W' → rep K W'.B v g → EvT pur (tTest (tOp oLt (tCB (rLen K) (tCons (tVar 5) tNil)) (tVar 4))) ((wipe [some va, some u, some u1, some u2, some (.int (s : Nat)), v5, w6, w7, w8] [5]).set 5 (some v)) W' (decide ((g.length : Int) < (s : Int))) := fun g v W' _ rg => et_test (ev_op (ev_cb1 (ev_var (i := 5) rfl rg) rc_len) (ev_var (i := 4) rfl vs) ro_B0)
        have gtT : ∀ {W : Wd} {w6 w7 w8 v5 : Option V} (g : List Int) (v : V) (W' : Wd), Stp pur W W' → rep K W'.B v g → EvT pur (tTest (tOp oGt (tCB (rLen K) (tCons (tVar 5) tNil)) (tVar 4))) ((wipe [some va, some u, some u1, some u2, some (.int (s : Nat)), v5, w6, w7, w8] [5]).set 5 (some v)) W' (decide ((s : Int) < (g.length : Int))) := fun g v W' _ rg => et_test (ev_op (ev_cb1 (ev_var (i := 5) rfl rg) rc_len) (ev_var (i := 4) rfl vs) ro_B0)
        have plen : pre.length ≤ 3001 := by rw [List.length_append] at hlen; omega
        refine q_asg (ε := pur) (K := K) (x := (pre ++ [t]) ++ [b ++ a]) (ev_op (ev_op ((cmp hlen rfl rr10 (fun g v W' hg gg rg => ltT g v W' gg rg) (fun _ => rfl)).is f2) ((ev_slL (ev_var (i := 6) rfl (rep_s g10 r9)) eo_none (eo_some (ev_int (K := K)))).is (cut_toN (xs := [t, a, b]) (n := 1))) (ro_cat (by show pre.length + 1 ≤ 100000; omega))) (ev_lst (ea_cons (ev_var (i := 7) rfl r10) ea_nil) (by show 1 ≤ 100000; decide)) (ro_cat (by rw [List.length_append]; show pre.length + 1 + 1 ≤ 100000; omega))) trivial fun v8' W11 g11 r11 => ?_
        have rr11 := rep_s g11 rr10
        have rl : R.flatten.length ≤ 3001 := by
          have : (pre ++ t :: ([a, b] ++ R.flatten)).length = pre.length + (R.flatten.length + 3) := by simp
          omega
        refine q_asg (ε := pur) (K := K) (x := ((pre ++ [t]) ++ [b ++ a]) ++ R.flatten) (ev_op (ev_var (i := 8) rfl r11) ((cmp hlen rfl rr11 (fun g v W' hg gg rg => gtT g v W' gg rg) (fun _ => rfl)).is f3) (ro_cat (by rw [List.length_append, List.length_append]; show pre.length + 1 + 1 + R.flatten.length ≤ 100000; omega))) trivial fun u' W12 g12 r12 => ?_
        refine s_asg (ε := pur) (K := K) (x := 2 * (s : Int)) (ev_op ev_int (ev_var (i := 4) rfl vs) (ro_I (.inl ⟨by decide, by decide⟩))) trivial fun v4' W13 g13 r13 => ?_
        rw [show v4' = V.int (2 * (s : Int)) from r13]
        refine ⟨R.length, W13, by rw [List.length_cons]; omega, rfl, 2 * s, pre ++ [t], b ++ a, R, u', _, _, _, _, by rw [show ((2 * s : Nat) : Int) = 2 * (s : Int) by omega]; rfl, ((((((G8.trans g9.pure).trans g10.pure).trans g11.pure).trans g12.pure).trans g13.pure)), ?_, by omega, fun g hg => ?_, by rw [List.length_append]; omega, hR.2, fun l hl => hok l (List.mem_cons_of_mem _ hl), ?_, ?_, ?_, rfl⟩
        · have := rep_s g13 r12
          rw [List.append_assoc] at this
          exact this
        · rcases List.mem_append.mp hg with h | h
          · have := hpre g h; omega
          · rw [List.mem_singleton.mp h]; omega
        · rw [← hfin]
          show (pre ++ [t]) ++ (insG (b ++ a) R).flatten = pre ++ ([t] :: insG (b ++ a) R).flatten
          rw [List.flatten_cons, List.append_assoc]
        · have : (pre ++ t :: ([a, b] ++ R.flatten)).length = (pre ++ [t] ++ (b ++ a) :: R.flatten).length + 1 := by simp only [List.length_append, List.length_cons, List.length_nil]; omega
          omega
        · have : (pre ++ t :: ([a, b] ++ R.flatten)).flatten.length = (pre ++ [t] ++ (b ++ a) :: R.flatten).flatten.length := by simp only [List.flatten_append, List.flatten_cons, List.flatten_nil, List.length_append, List.length_cons, List.length_nil]; omega
          omega
    · subst hb
      refine ⟨W4, rfl, u, _, _, _, _, _, _, _, rfl, G3.trans g4.pure, ?_⟩
      rw [tk, marks_snoc, if_neg Bool.false_ne_true, List.append_nil]
      exact rep_s g4 ru
  · rintro σ' W3 ⟨u, v2, v3, v4, v5, v6, v7, v8, rfl, g3, ru⟩
    rw [List.length_zip, rng_len, Nat.min_self, List.take_length] at ru
    exact ⟨_, rfl, k u W3 ((g1.pure.trans g2.pure).trans g3) ru⟩
theorem rd__law_whole (h : sp__law_whole K vs H Q E) : t__law_whole K { nx := fun _ H' => Q .non H', rt := Q } (start n__law_whole vs) H := by
  obtain ⟨W, v, o, rfl, rfl, r, k⟩ := h
  refine s_ret (ε := pur) (K := K) (x := o.isI && !o.isB) (ev_andV (ev_cb2 (ev_var (i := 0) rfl r) ev_raw (rc_isi (b := o.isI) (fun W1 v h => ty_odd W1 v o h) (odd_kitI o))) fun _ => ev_notV (ev_cb2 (ev_var (i := 0) rfl r) ev_raw (rc_isi (b := o.isB) (fun W1 v h => ty_odd W1 v o h) (odd_kitB o)))) trivial fun v W' g rv => ?_
  rw [show v = _ from rv]
  exact k W' g.pure
theorem rd__law_wrong_at (h : sp__law_wrong_at K vs H Q E) : t__law_wrong_at K { nx := fun _ H' => Q .non H', rt := Q } (start n__law_wrong_at vs) H := by
  obtain ⟨W, now, va, os, rfl, rfl, rva, hl, k⟩ := h
  have vn : ∀ {W : Wd}, rep K W.B (V.int now) (now : Int) := rfl
  show tSeq _ _ _ [some (.int now), some va, none, none, none] W.H
  refine q_asg (ε := pur) (K := K) (x := (0 : Int)) ev_int trivial fun v0 W1 g1 r0 => ?_
  rw [show v0 = V.int 0 from r0]
  refine q_for (ε := pur) (K := K) (xs := (rng 0 os.length).zip os) (ei_enum (ev_var (i := 1) rfl (rep_s g1 rva))) trivial fun W2 g2 =>
    ⟨fun i σ W' => ∃ (a : Int) (v3 v4 : Option V), σ = [some (.int now), some va, some (.int a), v3, v4] ∧ Grow W2 W' ∧ wrongAt now 0 os = (wrongAt now a (os.drop i)).map (· + i), ⟨0, none, none, rfl, .refl _ _, by rw [List.drop_zero]; cases wrongAt (now : Int) 0 os <;> rfl⟩, fun i σ' W' ⟨_, _, _, _, g, _⟩ => g.on, ?_, ?_⟩
  · rintro i ⟨at', o⟩ vx σ' W3' W3 hi hx ⟨a, v3, v4, rfl, g3', hw⟩ g3 rx
    rw [List.getElem?_zip_eq_some] at hx
    refine gt_p2 rx fun u1 u2 ru1 ru2 => ?_
    have hio : i < os.length := (List.getElem?_eq_some_iff.mp hx.2).1
    have hat : at' = (i : Int) := by
      have := hx.1
      rw [rng_get hio] at this
      have := Option.some.inj this
      omega
    have hd : os.drop i = o :: os.drop (i + 1) := by
      rw [List.drop_eq_getElem_cons hio]
      congr 1
      exact (List.getElem?_eq_some_iff.mp hx.2).2
    rw [hd] at hw
    have G3 := ((g1.pure.trans g2.pure).trans g3').trans g3
    have wh : EvR pur K (tCall (sp__law_whole K) [] E0 (tCons (tVar 4) tNil)) [some (.int now), some va, some (.int a), some u1, some u2] W3 (o.isI && !o.isB) := fun W1 g1 Q k => ⟨_, rfl, W1, u2, o, rfl, rfl, rep_s g1 ru2, fun W2 g2 => k _ W2 (.of g2) rfl⟩
    have test : EvT pur (tOr (tNot (tB (tCall (sp__law_whole K) [] E0 (tCons (tVar 4) tNil)))) (tNot (tTest (tChain oLt oLe (tVar 2) (tVar 4) (tVar 0))))) [some (.int now), some va, some (.int a), some u1, some u2] W3 (!o.tick (a + 1) now) := by
      cases o with
      | int t =>
        refine (et_or (a := false) ((et_not (et_B wh)).is rfl) fun _ => et_not (et_test (ev_chain (ev_var (i := 2) (x := a) rfl rfl) (ev_var (i := 4) (x := t) rfl ru2) (ev_var (i := 0) rfl vn) ro_B0 ro_B0))).is ?_
        show (false || !(decide (a < t) && decide (t ≤ (now : Int)))) = !inB (a + 1) (now : Int) t
        unfold inB
        rw [Bool.false_or]
        congr 2
      | bl _ => exact (et_or (a := true) (b := false) ((et_not (et_B wh)).is rfl) fun z => by cases z).is rfl
      | non => exact (et_or (a := true) (b := false) ((et_not (et_B wh)).is rfl) fun z => by cases z).is rfl
      | str _ => exact (et_or (a := true) (b := false) ((et_not (et_B wh)).is rfl) fun z => by cases z).is rfl
      | tup _ => exact (et_or (a := true) (b := false) ((et_not (et_B wh)).is rfl) fun z => by cases z).is rfl
      | lst _ => exact (et_or (a := true) (b := false) ((et_not (et_B wh)).is rfl) fun z => by cases z).is rfl
      | dct => exact (et_or (a := true) (b := false) ((et_not (et_B wh)).is rfl) fun z => by cases z).is rfl
    cases ht : o.tick (a + 1) now with
    | false =>
      rw [wrong_no ht] at hw
      rw [ht] at test
      refine q_when (ε := pur) (b := true) test trivial (fun _ W4 g4 => ⟨_, rfl, ?_⟩) (fun z => by cases z)
      rw [hw] at k
      have := k W4 (G3.trans g4.pure)
      rw [show u1 = V.int at' from ru1, hat]
      simpa [plcV] using this
    | true =>
      obtain ⟨t, rfl, h1, h2⟩ := tick_int ht
      rw [wrong_int ⟨h1, h2⟩] at hw
      rw [ht] at test
      refine q_when (ε := pur) (b := false) test trivial (fun z => by cases z) fun _ W4 g4 => ?_
      refine s_asg (ε := pur) (K := K) (x := t) (ev_var (i := 4) rfl (rep_s g4 (show rep K W3.B u2 t from ru2))) trivial fun v7 W5 g5 r7 => ?_
      refine ⟨W5, rfl, t, some u1, some u2, by rw [show v7 = _ from r7]; rfl, ((g3'.trans g3).trans g4.pure).trans g5.pure, ?_⟩
      rw [hw, Option.map_map]
      congr 1
      funext z
      show z + 1 + i = z + (i + 1)
      omega
  · rintro σ' W3 ⟨a, v3, v4, rfl, g3, hw⟩
    rw [List.length_zip, rng_len, Nat.min_self, List.drop_length] at hw
    rw [hw] at k
    exact k W3 ((g1.pure.trans g2.pure).trans g3)
theorem ei_listM {α : Type} [Py α] {W : Wd} {σ : SS} {d : Addr} {i : Nat} {xs : List α} (h1 : σ[i]? = some (some (.ref d))) (m1 : LMut K W d xs) : EvI pur K (iList K (tVar i)) σ W xs := fun W1 g1 R k => by
  obtain ⟨vs, e1, r1⟩ := (m1.gr g1.pure).ex
  refine ⟨_, h1, d, rfl, ⟨vs, SqL.of e1⟩, k (Itl K d) (fun W' => Grow W1 W') W1 g1.rf (.refl _ _) (fun _ _ a b => a.trans b.pure) ⟨fun i W' o hi => ?_, fun i W' v H'' o hi ⟨f1, f2⟩ => ?_, fun i W' o hi => ⟨vs, SqL.of (o.h _ _ e1), by rw [Reps.len r1]; exact hi⟩⟩⟩
  · obtain ⟨x, hx⟩ : ∃ x, xs[i]? = some x := ⟨xs[i], by simp [hi]⟩
    obtain ⟨v, h1, _⟩ := Reps.get' r1 hx
    exact ⟨vs, v, SqL.of (o.h _ _ e1), h1⟩
  · obtain ⟨p, h1, h2⟩ := Reps.get r1 (f2 vs (SqL.of (o.h _ _ e1)))
    exact ⟨p, W', f1.symm, .refl _ _, h1, rex o.b h2⟩
theorem ty_pair {α β : Type} [Py α] [Py β] {p : α × β} (W1 : Wd) (v : V) (h : rep K W1.B v p) : TyX K W1.H v (.type "tuple") := by
  obtain ⟨a, x, y, e, h1, _⟩ := h
  rw [e]
  exact .base (.tup (W1.sub.et h1))
theorem lm_dp {α : Type} [DecidableEq α] [Datum α] [Py α] [PyD α] {W : Wd} {d : Addr} {xs : List α} (m : LMut K W d xs) : Dp K W.H (.ref d) (Datum.toD xs) := by
  obtain ⟨vs, e, r⟩ := m.ex
  exact .lst (SqL.of e) (dps_ext W.sub _ _ (reps_dp r))
/-- a list that changes, != -/
theorem ev_neLM {α : Type} [DecidableEq α] [Datum α] [Py α] [PyD α] {W : Wd} {σ : SS} {i : Nat} {d : Addr} {tb : TE} {xs ys : List α} (hd : σ[i]? = some (some (.ref d))) (m : LMut K W d xs) (hb : EvR pur K tb σ W ys) (hz : Datum.depth (List α) ≤ 60) : EvR pur K (tOp (rEqT K true) (tVar i) tb) σ W (!decide (xs = ys)) := fun W1 g1 Q k =>
  ⟨_, hd, hb W1 g1 _ fun v W2 g2 r => ⟨List α, inferInstance, inferInstance, xs, ys, lm_dp (m.gr (g1.trans g2).pure), PyD.dp (rep_h r), hz, k _ W2 g2 rfl⟩⟩
/-- how often a number stands there -/
theorem ev_countI {ε : Ef} {W : Wd} {σ : SS} {te tv : TE} {xs : List Int} {z : Int} (h : EvR ε K te σ W xs) (hz : EvR ε K tv σ W z) : EvR ε K (tBM K "list" (rCntF K) te (tCons tv tNil)) σ W ((xs.countP (fun y => decide (y = z)) : Nat) : Int) := fun W1 g1 Q k => h W1 g1 _ fun v W2 g2 rv => by
  obtain ⟨a0, vs0, e0, s0, r0⟩ := id rv
  subst e0
  refine ⟨.inl ⟨rfl, vs0, SqL.of (W2.sub.el s0)⟩, hz W2 (g1.trans g2) _ fun u W3 g3 ru => ?_⟩
  obtain ⟨a, vs, e, s, r⟩ := rep_s g3 rv
  have e2 := reps_int r
  subst e2
  cases e
  have sq := SqL.of (K := K) (W3.sub.el s)
  refine ⟨_, xs.map V.int, u, rfl, rfl, sq, by rw [show u = V.int z from ru]; rfl, by rw [List.all_map]; simp [flatV], ?_⟩
  have : (xs.map V.int).countP (fun y => eqV y u) = xs.countP fun y => decide (y = z) := by
    rw [List.countP_map, show u = V.int z from ru]
    congr 1
  rw [this]
  exact k _ W3 (g2.trans g3) rfl
theorem kS_gr : ¬ (("groups" : Str) = "held") := by decide +kernel
theorem kS_gr2 : ¬ (("groups" : Str) = "ticks") := by decide +kernel
theorem kS_now : ¬ (("now" : Str) = "held") := by decide +kernel
theorem kS_now2 : ¬ (("now" : Str) = "ticks") := by decide +kernel
theorem ev_now {W : Wd} {σ : SS} {ε : Ef} {i : Nat} {x : Addr} {now : Nat} {L : List (List Int)} (hd : σ[i]? = some (some (.ref x))) (r : RunAt K W C x now L) (hS : x ∉ ε.S) : EvR ε K (tMeth C "now" (sp_Runs_now K C) [] E0 (tVar i) tNil) σ W (now : Int) := by
  obtain ⟨dx, vh, hx, _⟩ := r.ex
  exact ev_meth0 hd r.b hx hS (rf_no kS_now kS_now2) fun W1 g1 Q k => ⟨W1, x, now, L, rfl, rfl, r.s g1 hS, fun W2 g2 => k _ W2 (g1.rf.and g2) rfl⟩
theorem zf_len (p : List Int) : (Zf p).flatten.length ≤ p.length := by
  have h := (zf_ok p)
  have e := h.al
  have hge := zf_ge h.sz
  have : ∀ L : List (List Int), (∀ g ∈ L, 1 ≤ g.length) → L.length ≤ L.flatten.length := fun L => by
    induction L with
    | nil => intro _; exact Nat.le_refl _
    | cons g L ih =>
      intro hL
      have := ih fun g hg => hL g (List.mem_cons_of_mem _ hg)
      have := hL g List.mem_cons_self
      rw [List.flatten_cons, List.length_append, List.length_cons]
      omega
  have h1 := this (Zf p).flatten.reverse fun g hg => hge g (List.mem_reverse.mp hg)
  rw [List.length_reverse] at h1
  have h2 : ((Zf p).flatten.reverse.flatten).length = p.length := congrArg List.length e
  omega
theorem marks_len (L : List Bool) : (marksF L).length ≤ L.length := by
  unfold marksF
  rw [List.length_map]
  refine Nat.le_trans (List.length_filter_le _ _) ?_
  rw [List.length_zip, rng_len, Nat.min_self]
  exact Nat.le_refl _
theorem rd__law_told_right (c : RunsC K C) (h : sp__law_told_right K C vs H Q E) : t__law_told_right K C { nx := fun _ H' => Q .non H', rt := Q } (start n__law_told_right vs) H := by
  obtain ⟨W, x, va, bs, rfl, rfl, r, rva, hl, k⟩ := h
  let p := marksF bs
  let Z := Zf p
  have z : ZfOk p Z := zf_ok p
  have pr : p.Pairwise (· < ·) := (marks_tks bs).1
  have rise := zf_rise z pr
  have ne := zf_ne z.sz (Nat.le_refl 1)
  have zl : Z.flatten.length ≤ 3000 := Nat.le_trans (zf_len p) (Nat.le_trans (marks_len bs) hl)
  have e1 : Z.flatten.map (fun g => ((g.length : Int), top g)) = flat 1 (Lf p) := by
    rw [flat_tops Z 1 z.sz, z.tp]
    rfl
  have fl : (flat 1 (Lf p)).length ≤ 3000 := by rw [← e1, List.length_map]; exact zl
  show tSeq _ _ _ [some (.ref x), some va, none, none, none, none, none, none, none, none] W.H
  refine q_asg (ε := pur) (K := K) (x := flat 1 (Lf p)) ((ev_lcN (K := K) (α := List Int) (β := Int × Int) (xs := Z.flatten) (f := fun g => ((g.length : Int), top g)) (EvJ.i (ei_list (fun W1 g1 Q kk => ⟨_, rfl, W1, va, bs, rfl, rfl, rep_s g1 rva, hl, fun u W' g ru => kk u W' (.of g) ru⟩)))
    (fun g v W' hg gg rg => ev_pair (ev_cb1 (ev_var (i := 3) rfl rg) rc_len) (ev_cb1 (ev_var (i := 3) rfl rg) (rc_max (top_max (rise g hg) (ne g hg)).1 (top_max (rise g hg) (ne g hg)).2))) (by omega)).is e1) trivial fun v2 W1 g1 r2 => ?_
  have r1 := r.gr g1.pure
  show tSeq _ _ _ [some (.ref x), some va, some v2, none, none, none, none, none, none, none] W1.H
  refine q_for (ε := pur) (K := K) (xs := rng 0 2) (EvJ.toIs (ei_rng1 (n := 2) ev_int (by decide) (by decide)) rfl) trivial fun W2 g2 =>
    ⟨fun i σ W' => ∃ v4 v5 v6 : Option V, σ = [some (.ref x), some va, some v2, none, v4, v5, v6, none, none, none] ∧ Grow W2 W', ⟨none, none, none, rfl, .refl _ _⟩, fun i σ' W' ⟨_, _, _, _, g⟩ => g.on, ?_, ?_⟩
  · rintro i t vx σ' W3' W3 hi hxi ⟨v4, v5, v6, rfl, g3'⟩ g3 rx
    have G3 := g3'.trans g3
    have r3 := (r1.gr g2.pure).gr G3
    have rv3 := rep_g G3 (rep_s g2 r2)
    have rva3 := rep_g G3 (rep_s g2 (rep_s g1 rva))
    obtain ⟨dx, vh, hx, _⟩ := r3.ex
    show tSeq _ _ _ [some (.ref x), some va, some v2, none, some vx, v5, v6, none, none, none] W3.H
    refine ⟨_, rfl, x, dx, _, rfl, hx, rf_no kS_gr kS_gr2, W3, x, _, _, rfl, rfl, r3, fun d ds W4 g4 f4 b4 h4 rs4 => ?_⟩
    have m4 : LMut K W4 d (flat 1 (Lf p)) := ⟨b4, ds, h4, rs4⟩
    show tSeq _ _ _ [some (.ref x), some va, some v2, none, some vx, some (.ref d), v6, none, none, none] W4.H
    have isl : EvR pur K (tCB (rIsi K) (tCons (tVar 5) (tCons (tC (.ty "list")) tNil))) [some (.ref x), some va, some v2, none, some vx, some (.ref d), v6, none, none, none] W4 true := fun W5 g5 Q kk => by
      obtain ⟨vs5, e5, _⟩ := (m4.gr g5.pure).ex
      exact ⟨_, rfl, _, .ty "list", .type "list", .type "list", true, rfl, .ty "list", .base (.lst e5), kit_ty (by decide +kernel), kk _ W5 g5.rf rfl⟩
    refine q_when (ε := pur) (b := false) ((et_or (a := false) ((et_not (et_B isl)).is rfl) fun _ => et_or (a := false) ((et_test (ev_neLM (i := 5) (ys := flat 1 (Lf p)) rfl m4 (ev_var (i := 2) rfl (rep_g g4 rv3)) (by decide))).is (by simp)) fun _ => et_test (ev_op (ev_now (i := 0) rfl (r3.gr g4) (by simp [pur])) (ev_cb1 (ev_var (i := 1) rfl (rep_g g4 rva3)) rc_len) ro_neI)).is (by simp)) trivial (fun z => by cases z) fun _ W5 g5 => ?_
    have m5 := m4.gr g5.pure
    refine q_when (ε := pur) (b := false) ((et_test (ev_op (ev_lcNt (K := K) (α := Int × Int) (β := Int × Int) (p := fun _ => false) (f := fun q => q) (ei_listM (i := 5) rfl m5) (fun q v W' hq gg rq => (et_not (et_B (ev_cb2 (ev_var (i := 6) rfl rq) ev_raw (rc_isi (b := true) ty_pair (by decide +kernel))))).is rfl) (fun q v W' hq z _ _ => by cases z) (by omega)) (ev_lst (α := Int × Int) ea_nil (by decide)) (ro_neT (by decide)))).is (by simp)) trivial (fun z => by cases z) fun _ W6 g6 => ?_
    refine s_append (K := K) (i := 5) (y := ((9 : Int), (9 : Int))) rfl (m5.gr g6.pure) (ev_pair ev_int ev_int) (by omega) fun W7 g7 o7 m7 => ⟨W7, rfl, _, _, _, rfl, ?_⟩
    exact Md.fresh (S := []) ((((G3.trans g4).trans g5.pure).trans g6.pure)) g7 (by
      cases q : W2.H d with
      | none => rfl
      | some o => exact absurd f4 (G3.d d (by rw [q]; exact fun z => by cases z)))
  · rintro σ' W3 ⟨v4, v5, v6, rfl, g3⟩
    have rv3 := rep_g g3 (rep_s g2 r2)
    show tSeq _ _ _ [some (.ref x), some va, some v2, none, v4, v5, v6, none, none, none] W3.H
    refine q_asg (ε := pur) (K := K) (x := (flat 1 (Lf p)).map (·.1)) (ev_lcP (K := K) (α := Int) (β := Int) (γ := Int) (f := fun q => q.1) (EvJ.i (ei_list (ev_var (i := 2) rfl rv3))) (fun q v u W' hq gg rq ru => ev_var (i := 8) rfl rq) (by omega)) trivial fun v7 W4 g4 r7 => ?_
    have lok : LOk (Lf p) := lf_lok p
    refine s_ret (ε := pur) (K := K) (x := true) ((ev_andV (a := true) (b := true) ((ev_op (ev_var (i := 7) rfl r7) (ev_cb1 (ev_var (i := 7) rfl r7) (rc_sortedI (.refl _) (sizes_rise (Lf p) 1 (by decide)))) (ro_eqT (by decide))).is (by simp))
      fun _ => (ev_op (ev_lcNt (K := K) (α := Int) (β := Int) (p := fun y => decide ((2 : Int) < (((flat 1 (Lf p)).map (·.1)).countP (fun z => decide (z = y)) : Nat))) (f := fun y => y) (EvJ.i (ei_list (ev_var (i := 7) rfl r7))) (fun y v W' hy gg ry => et_test (ev_op (ev_countI (ev_var (i := 7) rfl (rep_s gg r7)) (ev_var (i := 8) rfl ry)) ev_int ro_B0)) (fun y v W' hy _ gg ry => ev_var (i := 8) rfl ry) (by rw [List.length_map]; omega)) (ev_lst (α := Int) ea_nil (by decide)) (ro_eqT (by decide))).is ?_).is rfl) trivial fun v W5 g5 rv => ?_
    · rw [decide_eq_true_eq, List.map_eq_nil_iff, List.filter_eq_nil_iff]
      intro y _ hc
      have h2 := of_decide_eq_true hc
      have h3 := sizes_two (Lf p) 1 (by decide) lok y
      omega
    · rw [show v = _ from rv]
      exact k W5 ((((g1.pure.trans g2.pure).trans g3).trans g4.pure).trans g5.pure)
end
end B
set_option maxHeartbeats 16000000
/-! k58: what is refused; the law -/
namespace B
open PySem L2 LamX LM
open PySem.W (Tup T3 T4 Datum DatumOrd)
open Evl (Ex)
abbrev qLam (x : Str) : Str := x ++ ".<locals>." ++ "<lambda>"
/-- _law_refusal: the slots 0 _law_work, 1 _law_caught, 2 e -/
abbrev n__law_refusal : List Str := ["_law_work", "_law_caught", "e"]
def t__law_refusal (K : Fg) : TS := (tSeq (tIfS (tTest (tOp oIsN (tVar 1) (tC .non))) (tRet (tLst (tCons (tC (.str "")) tNil))) tNext)
  (tSeq (tIfS (tB (tCB (BE.rIsF K) (tCons (tVar 1) (tCons (tC (.ref (cErr K "NoTick"))) tNil)))) (tRet (tLst (tCons (tC (.str "tick")) (tCons (tXg K (cErr K "NoTick") "at" (tVar 1)) tNil)))) tNext)
  (tRet (tLst (tCons (tIf (tB (tCB (BE.rIsF K) (tCons (tVar 1) (tCons (tC (.ref (cErr K "NoNumber"))) tNil)))) (tC (.str "number")) (tIf (tB (tCB (BE.rIsF K) (tCons (tVar 1) (tCons (tC (.ref (cErr K "NoTruth"))) tNil)))) (tC (.str "truth")) (tC (.str "other")))) tNil)))))
def sp__law_given_right (K : Fg) (C : Addr) : Sp := fun vs H Q _ => ∃ (W : Wd) (p : Addr) (va : V) (bs : List Bool), W.H = H ∧ vs = [.ref p, va] ∧ Sd K W p ∧ rep K W.B va bs ∧ bs.length ≤ 3000 ∧ TabAt W (tabP K "_law_given_right") (qLam "_law_given_right") ∧ p ≠ tabP K "_law_given_right" ∧ ∀ H', Q (.bl true) H'
theorem len__law_given_right {K : Fg} {C : Addr} {vs : List V} {H : Hp} {Q : VK} {E : XK} (h : sp__law_given_right K C vs H Q E) : vs.length = ["_law_state", "_law_marked"].length := by
  obtain ⟨W, p, va, bs, _, rfl, _⟩ := h
  rfl
/-- _law_given_right: the slots 0 _law_state, 1 _law_marked, 2 _law_now, 3 _law_ticks_here, 4 _law_at, 5 _law_one, 6 _law_odd, 7 _law_bent, 8 _law_wrong, 9 _law_bad -/
abbrev n__law_given_right : List Str := ["_law_state", "_law_marked", "_law_now", "_law_ticks_here", "_law_at", "_law_one", "_law_odd", "_law_bent", "_law_wrong", "_law_bad"]
def t__law_given_right (K : Fg) (c_Runs : Addr) : TS := (tSeq (tAsg (tTup (tCons (tCB (rLen K) (tCons (tVar 1) tNil)) (tCons (tLc (iEnum K (tCons (tVar 1) tNil)) (gPair K 4 5) (tB (tVar 5)) (tOp oAdd (tVar 4) (tC (.int 1))) [4, 5]) tNil))) (gPair K 2 3))
  (tSeq (tIfS (tNot (tB (tCall (sp__law_told_right K c_Runs) [] E0 (tCons (tCall (sp_runs_of K c_Runs) [] E0 (tCons (tVar 2) (tCons (tOp (rIxL K) (tLst (tCons (tVar 3) (tCons (tCB (rTupleO K) (tCons (tVar 3) tNil)) tNil))) (tCall (sp__law_draw K) [] E0 (tCons (tVar 0) (tCons (tC (.int 2)) tNil)))) tNil))) (tCons (tVar 1) tNil))))) (tRet (tC (.bl false))) tNext)
  (tSeq (tAsg (tCall (sp__law_draw K) [] E0 (tCons (tVar 0) (tCons (tOp oAdd (tCB (rLen K) (tCons (tVar 3) tNil)) (tC (.int 1))) tNil))) (gName 4))
  (tSeq (tAsg (tOp (rIxL K) (tLst (tCons (tC (.int 0)) (tCons (tUn oNeg (tC (.int 1))) (tCons (tVar 2) (tCons (tOp oAdd (tVar 2) (tC (.int 1))) (tCons (tC (.bl true)) (tCons (tC .non) (tCons (tC (.str "1")) (tCons (tVar 4) (tCons (tOp oPow (tC (.int 10)) (tC (.int 20))) (tCons (tTup (tCons (tC (.int 1)) tNil)) (tCons (tLst (tCons (tC (.int 1)) tNil)) (tCons tDNewK tNil))))))))))))) (tCall (sp__law_draw K) [] E0 (tCons (tVar 0) (tCons (tC (.int 12)) tNil)))) (gName 6))
  (tSeq (tAsg (tOp rCat (tOp rCat (tSl (rSlL K) (tVar 3) tNoPart (tPart (tVar 4))) (tLst (tCons (tVar 6) tNil))) (tSl (rSlL K) (tVar 3) (tPart (tOp oAdd (tVar 4) (tCall (sp__law_draw K) [] E0 (tCons (tVar 0) (tCons (tC (.int 2)) tNil))))) tNoPart)) (gName 7))
  (tSeq (tAsg (tCall (sp__law_wrong_at K) [] E0 (tCons (tVar 2) (tCons (tVar 7) tNil))) (gName 8))
  (tSeq (tIfS (tTest (tOp (rEqT K true) (LM.tLm (tabP K "_law_given_right") (qLam "_law_given_right") (TTrg K (cErr K "LeftError") (t__law_refusal K)) (fun E => (tCall (sp_runs_of K c_Runs) [] E (tCons (tVar 2) (tCons (tVar 7) tNil))))) (tIf (tTest (tOp oIsN (tVar 8) (tC .non))) (tLst (tCons (tC (.str "")) tNil)) (tLst (tCons (tC (.str "tick")) (tCons (tVar 8) tNil)))))) (tRet (tC (.bl false))) tNext)
  (tSeq (tAsg (tOp (rIxL K) (tLst (tCons (tUn oNeg (tC (.int 1))) (tCons (tC (.bl true)) (tCons (tC .non) (tCons (tC (.str "5")) (tCons (tLst (tCons (tC (.int 5)) tNil)) tNil)))))) (tCall (sp__law_draw K) [] E0 (tCons (tVar 0) (tCons (tC (.int 5)) tNil)))) (gName 9))
  (tSeq (tIfS (tTest (tOp (rEqT K true) (LM.tLm (tabP K "_law_given_right") (qLam "_law_given_right") (TTrg K (cErr K "LeftError") (t__law_refusal K)) (fun E => (tCall (sp_runs_of K c_Runs) [] E (tCons (tVar 9) (tCons (tLst (tCons (tVar 6) tNil)) tNil))))) (tLst (tCons (tC (.str "number")) tNil)))) (tRet (tC (.bl false))) tNext)
  (tRet (tOp (rEqT K false) (LM.tLm (tabP K "_law_given_right") (qLam "_law_given_right") (TTrg K (cErr K "LeftError") (t__law_refusal K)) (fun E => (tCall (sp_runs_of K c_Runs) [] E (tCons (tVar 2) (tCons (tOp (rIxL K) (tLst (tCons (tC .non) (tCons (tC (.str "")) (tCons tDNewK (tCons (tC (.int 5)) tNil))))) (tCall (sp__law_draw K) [] E0 (tCons (tVar 0) (tCons (tC (.int 4)) tNil)))) tNil))))) (tLst (tCons (tC (.str "tick")) (tCons (tC (.int 0)) tNil))))))))))))))
def sp_law (K : Fg) : Sp := fun vs H Q _ => ∃ (a : Addr) (ns : List Int), vs = [.ref a] ∧ SqL K H a (ns.map V.int) ∧ ns.length ≤ 63 ∧ (∀ x, x ∈ (["_law_given_right", "law"] : List Str) → H (tabP K x) = some (.tbl #[]) ∧ a ≠ tabP K x) ∧ ∀ H', Q (.bl true) H'
theorem len_law {K : Fg} {vs : List V} {H : Hp} {Q : VK} {E : XK} (h : sp_law K vs H Q E) : vs.length = ["_law_script"].length := by
  obtain ⟨a, ns, rfl, _⟩ := h
  rfl
theorem law_in {K : Fg} {H : Hp} (a : Addr) (ns : List Int) (hl : ns.length ≤ 63) (hS : SqL K H a (ns.map V.int)) (hT : ∀ x, x ∈ (["_law_given_right", "law"] : List Str) → H (tabP K x) = some (.tbl #[]) ∧ a ≠ tabP K x) : sp_law K [.ref a] H (fun v _ => v = .bl true) (fun _ _ _ => False) := ⟨a, ns, rfl, hS, hl, hT, fun _ => rfl⟩
/-- law: the slots 0 _law_script, 1 _law_state, 2 _law_many, 3 _law_marked, 4 _law_runs, 5 _law_at, 6 _law_aside, 7 _law_ahead, 8 _law_k, 9 _law_one, 10 _law_odd, 11 _law_other -/
abbrev n_law : List Str := ["_law_script", "_law_state", "_law_many", "_law_marked", "_law_runs", "_law_at", "_law_aside", "_law_ahead", "_law_k", "_law_one", "_law_odd", "_law_other"]
def t_law (K : Fg) (c_Runs : Addr) : TS := (tSeq (tAsg (tCall (sp__law_begun K) [] E0 (tCons (tVar 0) tNil)) (gName 1))
  (tSeq (tAsg (tCall (sp__law_draw K) [] E0 (tCons (tVar 1) (tCons (tC (.int 61)) tNil))) (gName 2))
  (tSeq (tIfS (tTest (tOp rEq (tCall (sp__law_draw K) [] E0 (tCons (tVar 1) (tCons (tC (.int 8)) tNil))) (tC (.int 0)))) (tAsg (tOp oAdd (tC (.int 1500)) (tCall (sp__law_draw K) [] E0 (tCons (tVar 1) (tCons (tC (.int 500)) tNil)))) (gName 2)) tNext)
  (tSeq (tAsg (tCall (sp__law_ticks K) [] E0 (tCons (tVar 1) (tCons (tVar 2) tNil))) (gName 3))
  (tSeq (tAsg (tTup (tCons (tMake c_Runs (sp_Runs___init__ K c_Runs) [] E0 tNil) (tCons (tCall (sp__law_draw K) [] E0 (tCons (tVar 1) (tCons (tOp oAdd (tVar 2) (tC (.int 1))) tNil))) tNil))) (gPair K 4 5))
  (tSeq (tPar 6 7 (tCons (tMeth c_Runs "twin" (sp_Runs_twin K c_Runs) [] E0 (tVar 4) tNil) (tCons (tLst tNil) tNil)))
  (tSeq (tFor (iEnum K (tCons (tVar 3) tNil)) (gPair K 8 9)
  (tSeq (tIfS (tTest (tOp rEq (tVar 8) (tVar 5))) (tPar 6 7 (tCons (tMeth c_Runs "twin" (sp_Runs_twin K c_Runs) [] E0 (tVar 4) tNil) (tCons (tSl (rSlL K) (tVar 3) tNoPart (tPart (tVar 8))) tNil))) tNext)
  (tIfS (tOr (tTest (tOp oNotN (tMeth c_Runs "tick" (sp_Runs_tick K c_Runs) [] E0 (tVar 4) (tCons (tVar 9) tNil)) (tC .non))) (tAnd (tTest (tOp oLt (tVar 2) (tC (.int 61)))) (tNot (tB (tCall (sp__law_told_right K c_Runs) [] E0 (tCons (tVar 4) (tCons (tSl (rSlL K) (tVar 3) tNoPart (tPart (tOp oAdd (tVar 8) (tC (.int 1))))) tNil))))))) (tRet (tC (.bl false))) tNext)))
  (tSeq (tAsg (tOp (rIxL K) (tLst (tCons (tC (.int 0)) (tCons (tC (.int 1)) (tCons (tC .non) (tCons (tC (.str "yes")) (tCons (tLst tNil) (tCons (tTup (tCons (tC (.bl true)) tNil)) tNil))))))) (tCall (sp__law_draw K) [] E0 (tCons (tVar 1) (tCons (tC (.int 6)) tNil)))) (gName 10))
  (tSeq (tIfS (tOr (tTest (tOp (rEqT K true) (LM.tLm (tabP K "law") (qLam "law") (TTrg K (cErr K "LeftError") (t__law_refusal K)) (fun E => (tMeth c_Runs "tick" (sp_Runs_tick K c_Runs) [] E (tVar 4) (tCons (tVar 10) tNil)))) (tLst (tCons (tC (.str "truth")) tNil)))) (tNot (tB (tCall (sp__law_told_right K c_Runs) [] E0 (tCons (tVar 4) (tCons (tVar 3) tNil)))))) (tRet (tC (.bl false))) tNext)
  (tSeq (tIfS (tOr (tNot (tB (tCall (sp__law_told_right K c_Runs) [] E0 (tCons (tVar 6) (tCons (tVar 7) tNil))))) (tTest (tOp rNe (tOp (rInsEq c_Runs (sp_Runs___eq__ K c_Runs) E0) (tVar 4) (tVar 6)) (tOp rEq (tCB (rLen K) (tCons (tVar 7) tNil)) (tCB (rLen K) (tCons (tVar 3) tNil)))))) (tRet (tC (.bl false))) tNext)
  (tSeq (tAsg (tMeth c_Runs "twin" (sp_Runs_twin K c_Runs) [] E0 (tVar 4) tNil) (gName 11))
  (tSeq (tDrop (tMeth c_Runs "tick" (sp_Runs_tick K c_Runs) [] E0 (tVar 11) (tCons (tC (.bl false)) tNil)))
  (tSeq (tIfS (tOr (tNot (tTest (tOp (rInsEq c_Runs (sp_Runs___eq__ K c_Runs) E0) (tVar 4) (tMeth c_Runs "twin" (sp_Runs_twin K c_Runs) [] E0 (tVar 4) tNil)))) (tOr (tTest (tOp (rInsEq c_Runs (sp_Runs___eq__ K c_Runs) E0) (tVar 4) (tVar 11))) (tTest (tOp oNotIsB (tOp (rInsEqA K c_Runs (sp_Runs___eq__ K c_Runs) E0) (tVar 4) (tMeth c_Runs "groups" (sp_Runs_groups K c_Runs) [] E0 (tVar 4) tNil)) (tC (.bl false)))))) (tRet (tC (.bl false))) tNext)
  (tRet (tCall (sp__law_given_right K c_Runs) [] E0 (tCons (tVar 1) (tCons (tVar 3) tNil)))))))))))))))))
section
variable {K : Fg} {vs : List V} {H : Hp} {Q : VK} {E : XK} {C : Addr}
theorem ev_isK3 {W : Wd} {σ : SS} {a : Addr} {x n : Str} {dd : Option Addr} {fs : List (Str × V)} (h1 : σ[1]? = some (some (.ref a))) (ha : W.H a = some (BX.ExK (.ref (cErr K x)) dd a)) (hf : FldW W dd fs) (r : Refd K x) (hn : n ∈ (["NoTick", "NoNumber", "NoTruth"] : List Str)) : EvR pur K (tCB (BE.rIsF K) (tCons (tVar 1) (tCons (tC (.ref (cErr K n))) tNil))) σ W (decide (n = x)) := fun W1 g1 Q k =>
  ⟨_, h1, a, cErr K x, dd, .ref (cErr K n), .ref (cErr K n), _, rfl, g1.pure.h a _ ha, fun d e => ⟨_, g1.pure.h _ _ (hf.h d e)⟩, r.e, fun u h => by cases h; rfl, r.ks n hn, k _ W1 g1.rf rfl⟩
theorem ev_ifW {α : Type} [Py α] {ε : Ef} {σ : SS} {W : Wd} {t : TT} {ta tb : TE} {b : Bool} {w : α} (h : EvT ε t σ W b) (h1 : b = true → EvR ε K ta σ W w) (h2 : b = false → EvR ε K tb σ W w) : EvR ε K (tIf t ta tb) σ W w := fun W1 g1 Q k => h W1 g1 _ fun W2 g2 => by
  cases b with
  | true => exact h1 rfl W2 (g1.trans g2) _ fun v W3 g3 r => k v W3 (g2.trans g3) r
  | false => exact h2 rfl W2 (g1.trans g2) _ fun v W3 g3 r => k v W3 (g2.trans g3) r
/-- what is told of a refusal -/
theorem rest_non {W : Wd} {f : Addr} (k : ∀ v W', Grow W W' → rep K W'.B v [SI.s ""] → Q v W'.H) : t__law_refusal K { nx := fun _ H' => Q .non H', rt := Q } [some (.ref f), some .non, none] W.H :=
  ⟨_, rfl, rfl, true, rfl, (ev_lst (ε := pur) (K := K) (σ := [some (.ref f), some .non, none]) (xs := [SI.s ""]) (ea_cons (ev_sS ev_str) ea_nil) (by show 1 ≤ 100000; decide)) W (.start trivial) _ fun v W' g r => k v W' g.pure r⟩
theorem rest_tick {W : Wd} {a f : Addr} {dd' : Option Addr} {j : Nat} (r : Refd K "NoTick") (ha : W.H a = some (BX.ExK (.ref (cErr K "NoTick")) dd' a)) (hf : FldW W dd' [("at", .int (j : Nat))]) (k : ∀ v W', Grow W W' → rep K W'.B v [SI.s "tick", SI.n (j : Nat)] → Q v W'.H) : t__law_refusal K { nx := fun _ H' => Q .non H', rt := Q } [some (.ref f), some (.ref a), none] W.H := by
  obtain ⟨dd, rfl⟩ : ∃ d, dd' = some d := by
    cases e : dd' with
    | none => exact absurd e (hf.s (by simp))
    | some d => exact ⟨d, rfl⟩
  refine ⟨_, rfl, rfl, false, rfl, ?_⟩
  refine q_when (ε := pur) (W := W) (b := true) ((et_B (ev_isK3 (σ := [some (.ref f), some (.ref a), none]) rfl ha hf r (by decide +kernel))).is (by decide +kernel)) trivial (fun _ W1 g1 => ?_) (fun z => by cases z)
  have at' : EvR pur K (tXg K (cErr K "NoTick") "at" (tVar 1)) [some (.ref f), some (.ref a), none] W1 ((j : Nat) : Int) := fun W2 g2 Q kk => ⟨_, rfl, a, dd, _, .int (j : Nat), rfl, (g1.pure.trans g2.pure).h _ _ ha, (g1.pure.trans g2.pure).h _ _ (hf.h dd rfl), by simp [List.lookup], kk _ W2 g2.rf rfl⟩
  exact (ev_lst (ε := pur) (K := K) (xs := [SI.s "tick", SI.n (j : Nat)]) (ea_cons (ev_sS ev_str) (ea_cons (ev_sN at') ea_nil)) (by show 2 ≤ 100000; decide)) W1 (.start trivial) _ fun v W' g r => k v W' (g1.pure.trans g.pure) r
theorem rest_word {W : Wd} {a f : Addr} {dd : Option Addr} {fs : List (Str × V)} {x w : Str} (r : Refd K x) (hx : x = "NoNumber" ∧ w = "number" ∨ x = "NoTruth" ∧ w = "truth") (ha : W.H a = some (BX.ExK (.ref (cErr K x)) dd a)) (hf : FldW W dd fs) (k : ∀ v W', Grow W W' → rep K W'.B v [SI.s w] → Q v W'.H) : t__law_refusal K { nx := fun _ H' => Q .non H', rt := Q } [some (.ref f), some (.ref a), none] W.H := by
  refine ⟨_, rfl, rfl, false, rfl, ?_⟩
  have is : ∀ {W' : Wd} (n : Str), Grow W W' → n ∈ (["NoTick", "NoNumber", "NoTruth"] : List Str) → EvR pur K (tCB (BE.rIsF K) (tCons (tVar 1) (tCons (tC (.ref (cErr K n))) tNil))) [some (.ref f), some (.ref a), none] W' (decide (n = x)) := fun n g hn => ev_isK3 rfl (g.h _ _ ha) (hf.gr g) r hn
  have nt : ("NoTick" : Str) ≠ x := by
    rcases hx with ⟨rfl, _⟩ | ⟨rfl, _⟩
    · decide +kernel
    · decide +kernel
  refine q_when (ε := pur) (W := W) (b := false) ((et_B (is "NoTick" (.refl [] W) (by decide +kernel))).is (decide_eq_false nt)) trivial (fun z => by cases z) fun _ W1 g1 => ?_
  have word : EvR pur K (tIf (tB (tCB (BE.rIsF K) (tCons (tVar 1) (tCons (tC (.ref (cErr K "NoNumber"))) tNil)))) (tC (.str "number")) (tIf (tB (tCB (BE.rIsF K) (tCons (tVar 1) (tCons (tC (.ref (cErr K "NoTruth"))) tNil)))) (tC (.str "truth")) (tC (.str "other")))) [some (.ref f), some (.ref a), none] W1 w := by
    rcases hx with ⟨rfl, rfl⟩ | ⟨rfl, rfl⟩
    · exact (ev_ifW (b := true) ((et_B (is "NoNumber" g1.pure (by decide +kernel))).is (by decide +kernel)) (fun _ => ev_str) (fun z => by cases z))
    · exact (ev_ifW (b := false) ((et_B (is "NoNumber" g1.pure (by decide +kernel))).is (by decide +kernel)) (fun z => by cases z) (fun _ => ev_ifW (b := true) ((et_B (is "NoTruth" g1.pure (by decide +kernel))).is (by decide +kernel)) (fun _ => ev_str) (fun z => by cases z)))
  exact (ev_lst (ε := pur) (K := K) (xs := [SI.s w]) (ea_cons (ev_sS word) ea_nil) (by show 1 ≤ 100000; decide)) W1 (.start trivial) _ fun v W' g r => k v W' (g1.pure.trans g.pure) r
/-- what is refused, where more changes -/
theorem rg_S {α : Type} [Py α] {CL Ce P : Addr} {rest : TS} {t : XK → TE} {σ : SS} {W : Wd} {q : Str} {w : α} {S : List Addr} {fs : List (Str × V)} {Q : VK} (t1 : TabAt W P q) (hx : PySem.W.exmOne K (.ref Ce) (.ref CL) = some true)
    (hw : ∀ (W1 : Wd) (a f : Addr) (dd : Option Addr), W1.H a = some (BX.ExK (.ref Ce) dd a) → FldW W1 dd fs → ∀ Q : VK, (∀ v W', Grow W1 W' → rep K W'.B v w → Q v W'.H) → rest { nx := fun _ H' => Q .non H', rt := Q } [some (.ref f), some (.ref a), none] W1.H)
    (hb : ∀ W1, Md [P] W W1 → ∀ (E : XK) (Q : VK), (∀ W2 dd, Md S W1 W2 → FldW W2 dd fs → E (.ref Ce) dd W2.H) → t E σ W1.H Q) (k : ∀ (v : V) (W' : Wd), rep K W'.B v w → Q v W'.H) : LM.tLm P q (TTrg K CL rest) t σ W.H Q := by
  refine ⟨t1.ts, fun H1 st => ?_⟩
  obtain ⟨W2, rfl, m2, t2⟩ := t1.step st
  refine fun f => hb W2 m2 _ _ fun W3 dd g3 hf => ⟨true, hx, fun _ a ha => ?_, fun z => by cases z⟩
  refine ⟨_, rfl, fun ha' => ?_⟩
  let W4 := W3.add a (BX.ExK (.ref Ce) dd a)
  have g4 : Grow W3 W4 := W3.grow_add ha'
  exact hw W4 a f dd upd_same (hf.gr g4) Q fun v W5 g5 r => k v W5 r
/-- xs[d:], d drawn -/
theorem ex_slFrom {α : Type} [Py α] {ε : Ef} {W : Wd} {σ : SS} {te tb : TE} {xs : List α} {P : Int → Prop} (h : EvR ε K te σ W xs) (hb : EvX ε K tb σ W P) : EvX ε K (tSl (rSlL K) te (tPart tb) tNoPart) σ W (fun ys : List α => ys.length ≤ xs.length) := fun W1 g1 Q k =>
  h W1 g1 _ fun v W2 g2 rx => hb W2 (g1.trans g2) _ fun u W3 g3 ⟨i, _, ri⟩ => ⟨i, ri, by
    obtain ⟨a, vs, e, s, r⟩ := rep_s g3 rx
    refine ⟨a, vs, e, SqL.of (W3.sub.el s), fun p hp => k _ (W3.add p _) ((g2.trans g3).and (W3.grow_add hp)) ⟨cutL xs (some i) none, ?_, p, _, rfl, upd_same, Reps.mono (exExt (W3.grow_add hp).b) ?_⟩⟩
    · show (cutL xs (some i) none).length ≤ xs.length
      unfold cutL
      rw [List.length_take, List.length_drop]
      omega
    · unfold cutV cutL
      rw [Reps.len r]
      exact Reps.take _ (Reps.drop _ r)⟩
theorem rep_lodd {H : Hp} {v : V} {ts : List Int} (h : rep K H v ts) : rep K H v (ts.map Odd.int) := by
  obtain ⟨a, vs, e, s, r⟩ := h
  exact ⟨a, vs, e, s, odd_reps r⟩
theorem ev_lOdd {ε : Ef} {W : Wd} {σ : SS} {te : TE} {ts : List Int} (h : EvR ε K te σ W ts) : EvR ε K te σ W (ts.map Odd.int) := fun W1 g1 Q k => h W1 g1 Q fun v W2 g2 r => k v W2 g2 (rep_lodd r)
theorem ev_told {ε : Ef} {W : Wd} {σ : SS} {i j : Nat} {x : Addr} {va : V} {bs : List Bool} (h1 : σ[i]? = some (some (.ref x))) (h2 : σ[j]? = some (some va)) (r : ∀ W', Stp ε W W' → RunAt K W' C x bs.length (Lf (marksF bs))) (ra : rep K W.B va bs) (hl : bs.length ≤ 3000) : EvR ε K (tCall (sp__law_told_right K C) [] E0 (tCons (tVar i) (tCons (tVar j) tNil))) σ W true := fun W1 g1 Q k =>
  ⟨_, h1, _, h2, W1, x, va, bs, rfl, rfl, r W1 g1, rep_s g1 ra, hl, fun W2 g2 => k _ W2 (g1.rf.and g2) rfl⟩
/-- a, b = a pair -/
theorem q_asgPair {α β : Type} [Py α] [Py β] {ε : Ef} {W : Wd} {σ : SS} {te : TE} {x : α × β} {i j : Nat} {tz : TS} {D : Ends} (h : EvR ε K te σ W x) (s : ε.I W) (k : ∀ v1 v2 (W' : Wd), Stp ε W W' → rep K W'.B v1 x.1 → rep K W'.B v2 x.2 → tz D ((σ.set i (some v1)).set j (some v2)) W'.H) : tSeq (tAsg te (gPair K i j)) tz D σ W.H := h W (.start s) _ fun v W' g r => gt_p2 r fun v1 v2 r1 r2 => k v1 v2 W' g r1 r2
theorem ev_dI {ε : Ef} {W : Wd} {σ : SS} {te : TE} {n : Int} (h : EvR ε K te σ W n) : EvR ε K te σ W (PyData.int n) := ev_dt h
theorem ev_dB {ε : Ef} {W : Wd} {σ : SS} {te : TE} {n : Bool} (h : EvR ε K te σ W n) : EvR ε K te σ W (PyData.bool n) := ev_dt h
theorem ev_dN {ε : Ef} {W : Wd} {σ : SS} {te : TE} (h : EvR ε K te σ W ()) : EvR ε K te σ W PyData.none := ev_dt h
theorem ev_dS {ε : Ef} {W : Wd} {σ : SS} {te : TE} {n : Str} (h : EvR ε K te σ W n) : EvR ε K te σ W (PyData.str n) := ev_dt h
theorem ev_dLB {ε : Ef} {W : Wd} {σ : SS} {te : TE} {n : List Bool} (h : EvR ε K te σ W n) : EvR ε K te σ W (PyData.list (n.map PyData.bool)) := ev_dt h
theorem ev_dTB {ε : Ef} {W : Wd} {σ : SS} {te : TE} {n : List Bool} (h : EvR ε K te σ W (Tup.mk n)) : EvR ε K te σ W (PyData.tuple (n.map PyData.bool)) := ev_dt h
theorem rd__law_given_right (c : RunsC K C) (rt : Refd K "NoTick") (rn : Refd K "NoNumber") (h : sp__law_given_right K C vs H Q E) : t__law_given_right K C { nx := fun _ H' => Q .non H', rt := Q } (start n__law_given_right vs) H := by
  obtain ⟨W, p, va, bs, rfl, rfl, s, rva, hl, tab, pP, k⟩ := h
  let P := tabP K "_law_given_right"
  let q := qLam "_law_given_right"
  let ts := marksF bs
  have tk : Tks (bs.length : Nat) ts := marks_tks bs
  have tl : ts.length ≤ 3000 := Nat.le_trans (marks_len bs) hl
  have eI : ∀ {i : Int} {W : Wd}, rep K W.B (V.int i) i := rfl
  show tSeq _ _ _ [some (.ref p), some va, none, none, none, none, none, none, none, none] W.H
  refine q_asgPair (ε := pur) (K := K) (W := W) (ev_pair (ε := pur) (K := K) (x := (bs.length : Int)) (y := ts) (ev_cb1 (ev_var (i := 1) rfl rva) rc_len) (ev_lcPt (K := K) (α := Int) (β := Bool) (γ := Int) (xs := (rng 0 bs.length).zip bs) (p := fun q => q.2) (f := fun q => q.1 + 1) (ei_enum (ev_var (i := 1) rfl rva)).i (fun q v u W' hq g rv ru => et_B (K := K) (ev_var (i := 5) rfl ru)) (fun q v u W' hq hp g rv ru => ev_op (ev_var (i := 4) rfl rv) ev_int ro_I0) (by rw [List.length_zip, rng_len]; omega))) trivial fun v2 v3 W1 g1 r2 r3 => ?_
  have e2 : v2 = V.int (bs.length : Nat) := r2
  subst e2
  have r3 : rep K W1.B v3 ts := r3
  have s1 := s.g g1.pure
  have tab1 := tab.gr g1.pure
  have rva1 := rep_s g1 rva
  let S1 : SS := [some (.ref p), some va, some (.int (bs.length : Nat)), some v3, none, none, none, none, none, none]
  show tSeq _ _ _ S1 W1.H
  have told : EvR (drd K p) K (tCall (sp__law_told_right K C) [] E0 (tCons (tCall (sp_runs_of K C) [] E0 (tCons (tVar 2) (tCons (tOp (rIxL K) (tLst (tCons (tVar 3) (tCons (tCB (rTupleO K) (tCons (tVar 3) tNil)) tNil))) (tCall (sp__law_draw K) [] E0 (tCons (tVar 0) (tCons (tC (.int 2)) tNil)))) tNil))) (tCons (tVar 1) tNil))) S1 W1 true := fun W2 g2 Q kk => by
    refine ⟨_, rfl, ?_⟩
    refine ex_ixX' (K := K) (ε := drd K p) (W := W1) (n := 2) (P := fun o : Odd => o = .lst ts ∨ o = .tup ts) (ex_lst (exa_cons (ex_of (ev_oL (ev_var (i := 3) rfl r3)) (.inl rfl)) (exa_cons (ex_of (ev_oT (ev_cb1 (ev_var (i := 3) rfl r3) rc_tupL)) (.inr rfl)) exa_nil)) (by decide)) (ev_draw' (i := 0) (p := p) (n := 2) rfl ev_int (by decide) (by decide)) W2 g2 _ fun v W3 g3 ⟨o, ho, ro⟩ => ?_
    refine .inl ⟨W3, bs.length, v, ts, rfl, rfl, ?_, tk, by omega, fun x W4 g4 fx r4 => ⟨_, rfl, W4, x, va, bs, rfl, rfl, r4, rep_g g4 (rep_s g3 (rep_s g2 rva1)), hl, fun W5 g5 => kk _ W5 (g3.and (g4.trans g5)) rfl⟩⟩
    rcases ho with rfl | rfl
    · exact .inl ro
    · exact .inr ro
  refine q_when (ε := drd K p) (b := false) ((et_not (et_B told)).is rfl) s1 (fun z => by cases z) fun _ W2 g2 => ?_
  have s2 : Sd K W2 p := g2.i
  have r32 := rep_s g2 r3
  have Pp : P ∉ [p] := by simpa using Ne.symm pP
  have tab2 := tab1.g g2.md Pp
  refine q_asgP (ε := drd K p) (ev_draw' (K := K) (σ := S1) (W := W2) (i := 0) (p := p) (n := (ts.length : Int) + 1) rfl (ev_op (ev_cb1 (ev_var (i := 3) rfl r32) rc_len) ev_int ro_I0) (by omega) (by omega)) s2 fun v4 W3 g3 ⟨at', ⟨a0, a1⟩, e4⟩ => ?_
  rw [show v4 = V.int at' from e4]
  have s3 : Sd K W3 p := g3.i
  let S3 : SS := [some (.ref p), some va, some (.int (bs.length : Nat)), some v3, some (.int at'), none, none, none, none, none]
  show tSeq _ _ _ S3 W3.H
  refine q_asgP (ε := drd K p) (ep_ixD (K := K) (xs := ([.int 0, .int (-1), .int (bs.length : Nat), .int ((bs.length : Nat) + 1), .bl true, .non, .str "1", .int at', .int ((10 : Int) ^ (20 : Int).toNat), .tup [1], .lst [1], .dct] : List Odd)) (ev_lst (ea_cons (ev_oI ev_int) (ea_cons (ev_oI (ev_un ev_int ru_neg)) (ea_cons (ev_oI (ev_var (i := 2) rfl eI)) (ea_cons (ev_oI (ev_op (ev_var (i := 2) rfl eI) ev_int ro_I0)) (ea_cons (ev_oB ev_bl) (ea_cons (ev_oN ev_non) (ea_cons (ev_oS ev_str) (ea_cons (ev_oI (ev_var (i := 4) rfl eI)) (ea_cons (ev_oI (ev_op ev_int ev_int (ro_I (C := CPow) ⟨by decide, by decide, by decide⟩))) (ea_cons (ev_oT (ev_tupN (ea_cons ev_int ea_nil) (by decide))) (ea_cons (ev_oL (ev_lst (ea_cons ev_int ea_nil) (by decide))) (ea_cons (ev_oD ed_new) ea_nil)))))))))))) (by show 12 ≤ 100000; decide)) (ev_draw (i := 0) (p := p) (n := 12) rfl ev_int (by decide) (by decide))) s3 fun v6 W4 g4 ⟨o6, _, r6⟩ => ?_
  have s4 : Sd K W4 p := g4.i
  let S4 : SS := [some (.ref p), some va, some (.int (bs.length : Nat)), some v3, some (.int at'), none, some v6, none, none, none]
  show tSeq _ _ _ S4 W4.H
  have r34 := rep_s g4 (rep_s g3 r32)
  have pre : EvR (drd K p) K (tOp rCat (tSl (rSlL K) (tVar 3) tNoPart (tPart (tVar 4))) (tLst (tCons (tVar 6) tNil))) S4 W4 ((cutL ts none (some at')).map Odd.int ++ [o6]) := ev_op (ev_lOdd (ev_slL (ev_var (i := 3) rfl r34) eo_none (eo_some (K := K) (ev_var (i := 4) rfl eI)))) (ev_lst (ea_cons (ev_var (i := 6) rfl r6) ea_nil) (by show 1 ≤ 100000; decide)) (ro_cat (by
    rw [List.length_map]
    have := cut_len (ns := ts) (lo := none) (hi := some at')
    show _ + 1 ≤ 100000
    omega))
  have post : EvX (drd K p) K (tSl (rSlL K) (tVar 3) (tPart (tOp oAdd (tVar 4) (tCall (sp__law_draw K) [] E0 (tCons (tVar 0) (tCons (tC (.int 2)) tNil))))) tNoPart) S4 W4 (fun os : List Odd => os.length ≤ 3000) := fun W5 g5 Q kk => ex_slFrom (K := K) (P := fun _ => True) (ev_var (i := 3) rfl r34) (ex_op (P := fun x : Int => x = at') (R := fun _ : Int => True) (ex_of (ev_var (i := 4) rfl eI) rfl) ((ev_draw' (i := 0) (p := p) (n := 2) rfl ev_int (by decide) (by decide)).imp fun _ _ => trivial) fun x y hx _ => ⟨x + y, trivial, ro_I0⟩) W5 g5 Q fun v W6 g6 ⟨ys, hy, ry⟩ => kk v W6 g6 ⟨ys.map Odd.int, by show (ys.map Odd.int).length ≤ 3000; rw [List.length_map]; omega, rep_lodd ry⟩
  refine q_asgP (ε := drd K p) (ex_op (K := K) (S := fun os : List Odd => os.length ≤ 6001) (ex_of pre (P := fun l => l.length ≤ 3001) (by
      rw [List.length_append, List.length_map]
      have := cut_len (ns := ts) (lo := none) (hi := some at')
      show _ + 1 ≤ 3001
      omega)) post fun x y hx hy => ⟨x ++ y, by rw [List.length_append]; omega, ro_cat (by omega)⟩) s4 fun v7 W5 g5 ⟨os, hos, r7⟩ => ?_
  have s5 : Sd K W5 p := g5.i
  have tab5 := ((tab2.g g3.md Pp).g g4.md Pp).g g5.md Pp
  let S5 : SS := [some (.ref p), some va, some (.int (bs.length : Nat)), some v3, some (.int at'), none, some v6, some v7, none, none]
  show tSeq _ _ _ S5 W5.H
  -- wrong
  refine q_asgP (ε := pur) (P := fun v _ => v = plcV (wrongAt (bs.length : Nat) 0 os)) (fun W6 g6 Q kk => ⟨_, rfl, _, rfl, W6, bs.length, v7, os, rfl, rfl, rep_s g6 r7, hos, fun W7 g7 => kk _ W7 (.of g7) rfl⟩) trivial fun v8 W6 g6 e8 => ?_
  rw [e8]
  let S6 : SS := [some (.ref p), some va, some (.int (bs.length : Nat)), some v3, some (.int at'), none, some v6, some v7, some (plcV (wrongAt (bs.length : Nat) 0 os)), none]
  show tSeq _ _ _ S6 W6.H
  have r76 := rep_s g6 r7
  have tab6 := tab5.gr g6.pure
  have due : ∃ w : List SI, EvR (lamE P q) K (LM.tLm P q (TTrg K (cErr K "LeftError") (t__law_refusal K)) (fun E => (tCall (sp_runs_of K C) [] E (tCons (tVar 2) (tCons (tVar 7) tNil))))) S6 W6 w ∧ EvR (lamE P q) K (tIf (tTest (tOp oIsN (tVar 8) (tC .non))) (tLst (tCons (tC (.str "")) tNil)) (tLst (tCons (tC (.str "tick")) (tCons (tVar 8) tNil)))) S6 W6 w := by
    cases hw : wrongAt (bs.length : Nat) 0 os with
    | none =>
      obtain ⟨ts', rfl, tk'⟩ := wrong_tks hw
      refine ⟨[SI.s ""], ev_rgOk (fun W1 f Q kk => rest_non kk) fun W1 md E Q kk => ⟨_, rfl, _, rfl, .inl ⟨W1, bs.length, v7, ts', rfl, rfl, .inl ?_, tk', by omega, fun x W' g _ _ => kk _ W' g⟩⟩, ?_⟩
      · obtain ⟨a, us, e, hs, rr⟩ := r76
        exact Py.mono (exExt md.b) (show rep K W6.B v7 ts' from ⟨a, us, e, hs, reps_odd rr⟩)
      · refine ev_ifW (b := true) (fun W1 g1 Q kk => ⟨_, rfl, rfl, true, by simp [hw, plcV], kk W1 g1.rf⟩) (fun _ => ev_lst (xs := [SI.s ""]) (ea_cons (ev_sS ev_str) ea_nil) (by show 1 ≤ 100000; decide)) (fun z => by cases z)
    | some j =>
      refine ⟨[SI.s "tick", SI.n (j : Nat)], ev_rg (fs := [("at", .int (j : Nat))]) rt.l (fun W1 a f dd ha hf Q kk => ?_) (fun W1 md E Q kk => ⟨_, rfl, _, rfl, .inr (.inr (.inr ⟨W1, bs.length, v7, os, j, rfl, rfl, Py.mono (exExt md.b) r76, hos, hw, fun W' dd g hd => kk W' (some dd) g (.of hd)⟩))⟩), ?_⟩
      · exact rest_tick rt ha hf kk
      · refine ev_ifW (b := false) (fun W1 g1 Q kk => ⟨_, rfl, rfl, false, by simp [hw, plcV], kk W1 g1.rf⟩) (fun z => by cases z) (fun _ => ev_lst (xs := [SI.s "tick", SI.n (j : Nat)]) (ea_cons (ev_sS ev_str) (ea_cons (ev_sN (ev_var (i := 8) rfl (by rw [hw]; rfl))) ea_nil)) (by show 2 ≤ 100000; decide))
  obtain ⟨w, d1, d2⟩ := due
  refine q_when (ε := lamE P q) (b := false) ((et_test (ev_op d1 d2 (ro_neT (by decide)))).is (by simp)) tab6 (fun z => by cases z) fun _ W7 g7 => ?_
  have tab7 : TabAt W7 P q := g7.i
  have pS : p ∉ [P] := by simpa using pP
  have s7 : Sd K W7 p := (s5.g g6.pure).off g7.md pS
  -- no number
  have bad : ∀ o ∈ ([.int (-1), .bl true, .non, .str "5", .lst [5]] : List Odd), ∀ z : Int, o = .int z → z < 0 := fun o ho z hz => by
    subst hz
    simp only [List.mem_cons, List.not_mem_nil, or_false, Odd.int.injEq, reduceCtorEq, false_or] at ho
    omega
  refine q_asgP (ε := drd K p) (ep_ixD (K := K) (xs := ([.int (-1), .bl true, .non, .str "5", .lst [5]] : List Odd)) (ev_lst (ea_cons (ev_oI (ev_un ev_int ru_neg)) (ea_cons (ev_oB ev_bl) (ea_cons (ev_oN ev_non) (ea_cons (ev_oS ev_str) (ea_cons (ev_oL (ev_lst (ea_cons ev_int ea_nil) (by decide))) ea_nil))))) (by show 5 ≤ 100000; decide)) (ev_draw (i := 0) (p := p) (n := 5) rfl ev_int (by decide) (by decide))) s7 fun v9 W8 g8 ⟨o9, ho9, r9⟩ => ?_
  have tab8 := tab7.g g8.md Pp
  have s8 : Sd K W8 p := g8.i
  have r68 := rep_s g8 (rep_on g7.on (rep_s g6 (rep_s g5 r6)))
  let S8 : SS := [some (.ref p), some va, some (.int (bs.length : Nat)), some v3, some (.int at'), none, some v6, some v7, some (plcV (wrongAt (bs.length : Nat) 0 os)), some v9]
  show tSeq _ _ _ S8 W8.H
  refine q_when (ε := lamE P q) (b := false) ((et_test (ev_op (K := K) (x := [SI.s "number"]) (y := [SI.s "number"]) (ev_rg (fs := []) rn.l (fun W1 a f dd ha hf Q kk => rest_word rn (.inl ⟨rfl, rfl⟩) ha hf kk) (fun W1 md E Q kk => ⟨_, rfl, (ev_lst (ε := pur) (K := K) (xs := [o6]) (ea_cons (ev_var (i := 6) rfl (Py.mono (exExt md.b) r68)) ea_nil) (by show 1 ≤ 100000; decide)) W1 (.start trivial) _ fun v W2 g2 _ => .inr (.inl ⟨W2, v9, v, o9, rfl, rfl, rep_s g2 (Py.mono (exExt md.b) r9), bad o9 ho9, fun W' dd g e => kk W' dd (g2.pure.trans g) (by rw [e]; exact .non W')⟩)⟩)) (ev_lst (xs := [SI.s "number"]) (ea_cons (ev_sS ev_str) ea_nil) (by show 1 ≤ 100000; decide)) (ro_neT (by decide)))).is (by simp)) tab8 (fun z => by cases z) fun _ W9 g9 => ?_
  have tab9 : TabAt W9 P q := g9.i
  have s9 : Sd K W9 p := s8.off g9.md pS
  -- no ticks
  have odd4 : ∀ d ∈ ([.none, .str "", .dict [], .int 5] : List PyData), kitB (dcls d) "list" = some false ∧ kitB (dcls d) "tuple" = some false := fun d hd => by
    simp only [List.mem_cons, List.not_mem_nil, or_false] at hd
    rcases hd with rfl | rfl | rfl | rfl <;> exact ⟨by decide +kernel, by decide +kernel⟩
  refine rg_S (K := K) (w := [SI.s "tick", SI.n ((0 : Nat) : Int)]) (S := [p]) (fs := [("at", .int ((0 : Nat) : Int))]) tab9 rt.l (fun W1 a f dd ha hf Q kk => ?_) (fun W1 md E Q kk => ⟨_, rfl, ?_⟩) fun v W10 rv => ?_
  · exact rest_tick rt ha hf kk
  · have s1 : Sd K W1 p := s9.off md pS
    refine ep_ixD (K := K) (ε := drd K p) (W := W1) (xs := ([.none, .str "", .dict [], .int 5] : List PyData)) (ev_lst (ea_cons (ev_dN ev_non) (ea_cons (ev_dS ev_str) (ea_cons (ev_dd ed_new) (ea_cons (ev_dI ev_int) ea_nil)))) (by show 4 ≤ 100000; decide)) (ev_draw (i := 0) (p := p) (n := 4) rfl ev_int (by decide) (by decide)) W1 (.start s1) _ fun v W2 g2 ⟨d, hd, rd⟩ => .inr (.inr (.inl ⟨W2, bs.length, v, d, rfl, rfl, rd, (odd4 d hd).1, (odd4 d hd).2, fun W' dd g hdd => kk W' (some dd) (g2.md.trans (Grow.s g)) (.of hdd)⟩))
  · refine (ev_lst (ε := pur) (K := K) (σ := S8) (xs := [SI.s "tick", SI.n ((0 : Nat) : Int)]) (ea_cons (ev_sS ev_str) (ea_cons (ev_sN ev_int) ea_nil)) (by show 2 ≤ 100000; decide)) W10 (.start trivial) _ fun u W11 g11 ru => ?_
    refine (ro_eqT (K := K) (α := List SI) (by decide)) v u W11 (rep_s g11 rv) ru _ fun z W12 g12 rz => ?_
    rw [show z = V.bl true by rw [show z = _ from rz]; simp]
    exact k _
end
end B
/-! k58: the law -/
namespace B
open PySem L2 LamX LM
open PySem.W (Tup T3 T4 Datum DatumOrd)
open Evl (Ex)
theorem q_asgH {i : Nat} {te : TE} {tz : TS} {D : Ends} {σ : SS} {H : Hp} (h : te σ H fun v H1 => tz D (σ.set i (some v)) H1) : tSeq (tAsg te (gName i)) tz D σ H := h
theorem q_tupR2 {t1 t2 : TE} {g : TG} {tz : TS} {D : Ends} {σ : SS} {H : Hp} (h : t1 σ H fun v1 H1 => t2 σ H1 fun v2 H2 => [v1, v2].length ≤ sizeLine ∧ ∀ p, H2 p = none → g (.ref p) σ (upd H2 p (.tup [v1, v2])) (tz D)) : tSeq (tAsg (tTup (tCons t1 (tCons t2 tNil))) g) tz D σ H := h
section
variable {K : Fg} {vs : List V} {H : Hp} {Q : VK} {E : XK} {C : Addr}
theorem kS_tw : ¬ (("twin" : Str) = "held") := by decide +kernel
theorem kS_tw2 : ¬ (("twin" : Str) = "ticks") := by decide +kernel
/-- a twin -/
theorem ep_twin {W : Wd} {σ : SS} {i : Nat} {x : Addr} {now : Nat} {L : List (List Int)} (hd : σ[i]? = some (some (.ref x))) (r : RunAt K W C x now L) : EvP pur (tMeth C "twin" (sp_Runs_twin K C) [] E0 (tVar i) tNil) σ W (fun v W' => ∃ y, v = .ref y ∧ RunAt K W' C y now L ∧ W.H y = none) := by
  obtain ⟨dx, vh, hx, _⟩ := r.ex
  exact ev_meth0 hd r.b hx (by simp [pur]) (rf_no kS_tw kS_tw2) fun W1 g1 Q k => ⟨W1, x, now, L, rfl, rfl, r.gr g1.pure, fun y W2 g2 f r2 => k _ W2 (.of g2) ⟨y, rfl, r2, by
    cases q : W.H y with
    | none => rfl
    | some o => exact absurd f (g1.md.d y (by rw [q]; exact fun z => by cases z))⟩⟩
theorem s_parP {i j : Nat} {ta tb : TE} {D : Ends} {ε : Ef} {σ : SS} {W : Wd} {P R : V → Wd → Prop} (ha : EvP ε ta σ W P) (hb : EvP ε tb σ W R) (s : ε.I W) (mono : ∀ v W W', Stp ε W W' → P v W → P v W')
    (k : ∀ v u W', Stp ε W W' → P v W' → R u W' → D.nx ((σ.set i (some v)).set j (some u)) W'.H) : tPar i j (tCons ta (tCons tb tNil)) D σ W.H :=
  ha W (.start s) _ fun v W1 g1 p => hb W1 g1 _ fun u W2 g2 r => ⟨v, u, rfl, k v u W2 (g1.trans g2) (mono v W1 W2 g2 p) r⟩
theorem ev_eqR {ε : Ef} {W : Wd} {σ : SS} {ta tb : TE} {x y : Addr} {n m : Nat} {L M : List (List Int)} (ha : EvR ε K ta σ W (Raw.mk (.ref x))) (hb : EvR ε K tb σ W (Raw.mk (.ref y))) (r : ∀ W', Stp ε W W' → RunAt K W' C x n L) (ry : ∀ W', Stp ε W W' → RunAt K W' C y m M) : EvR ε K (tOp (rInsEq C (sp_Runs___eq__ K C) E0) ta tb) σ W (decide (((n : Int), flat 1 L) = ((m : Int), flat 1 M))) := fun W1 g1 Q k =>
  ha W1 g1 _ fun v W2 g2 ev => hb W2 (g1.trans g2) _ fun u W3 g3 eu => by
    have G := (g1.trans g2).trans g3
    obtain ⟨dx, vh, hx, _⟩ := (r W3 G).ex
    obtain ⟨dy, vy, hy, _⟩ := (ry W3 G).ex
    exact ⟨x, y, dx, dy, _, _, ev, eu, hx, hy, .inl ⟨W3, x, y, n, m, L, M, rfl, by rw [show v = V.ref x from ev, show u = V.ref y from eu], r W3 G, ry W3 G, fun W4 g4 => k _ W4 ((g2.trans g3).and g4) rfl⟩⟩
theorem rd_law (c : RunsC K C) (rt : Refd K "NoTick") (rn : Refd K "NoNumber") (rtr : Refd K "NoTruth") (hP : tabP K "_law_given_right" ≠ tabP K "law") (nf : PySem.W.subIn K (.type "list") (.ref C) = some false ∧ PySem.W.kitOne K (.type "list") (.ref C) = some false) (h : sp_law K vs H Q E) : t_law K C { nx := fun _ H' => Q .non H', rt := Q } (start n_law vs) H := by
  obtain ⟨a, ns, rfl, hS, hl, hT, k⟩ := h
  obtain ⟨hT1, ha1⟩ := hT "_law_given_right" (by simp)
  obtain ⟨hT2, ha2⟩ := hT "law" (by simp)
  let P1 := tabP K "_law_given_right"
  let P2 := tabP K "law"
  let q1 := qLam "_law_given_right"
  let q2 := qLam "law"
  let W : Wd := ⟨fun b => if b = P1 ∨ b = P2 then none else H b, H, fun b o e => by
    by_cases c : b = P1 ∨ b = P2
    · have e' : (if b = P1 ∨ b = P2 then none else H b) = some o := e
      rw [if_pos c] at e'; cases e'
    · have e' : (if b = P1 ∨ b = P2 then none else H b) = some o := e
      rw [if_neg c] at e'; exact .inl e'⟩
  have tW1 : TabAt W P1 q1 := ⟨if_pos (.inl rfl), #[], hT1, True.intro, fun pos cv hc => by
    have z : codeAmong pos [] = some cv := hc
    simp [codeAmong] at z⟩
  have tW2 : TabAt W P2 q2 := ⟨if_pos (.inr rfl), #[], hT2, True.intro, fun pos cv hc => by
    have z : codeAmong pos [] = some cv := hc
    simp [codeAmong] at z⟩
  have hB : W.B a = H a := if_neg fun z => z.elim ha1 ha2
  have hSB : SqL K W.B a (ns.map V.int) := by
    rcases hS with (h | ⟨o, h⟩) | h
    · exact .inl (.inl (hB.trans h))
    · exact .inl (.inr ⟨o, hB.trans h⟩)
    · exact .inr h
  have eI : ∀ {i : Int} {W : Wd}, rep K W.B (V.int i) i := rfl
  show t_law K C _ [some (.ref a), none, none, none, none, none, none, none, none, none, none, none] W.H
  refine q_asgH ?_
  refine ⟨_, rfl, W, a, ns, rfl, rfl, hSB, hl, fun p W1 g1 s1 hp0 => ?_⟩
  have pP1 : p ≠ P1 := fun e => by rw [e, show W.H P1 = some (.tbl #[]) from hT1] at hp0; cases hp0
  have pP2 : p ≠ P2 := fun e => by rw [e, show W.H P2 = some (.tbl #[]) from hT2] at hp0; cases hp0
  have t11 := tW1.gr g1
  have t21 := tW2.gr g1
  have P1p : P1 ∉ [p] := by simpa using Ne.symm pP1
  have P2p : P2 ∉ [p] := by simpa using Ne.symm pP2
  let S1 : SS := [some (.ref a), some (.ref p), none, none, none, none, none, none, none, none, none, none]
  show tSeq _ _ _ S1 W1.H
  refine q_asgP (ε := drd K p) (ev_draw' (K := K) (σ := S1) (W := W1) (i := 1) (p := p) (n := 61) rfl ev_int (by decide) (by decide)) s1 fun v2 W2 g2 ⟨w, ⟨w0, w1⟩, e2⟩ => ?_
  rw [show v2 = V.int w from e2]
  obtain ⟨n0, rfl⟩ : ∃ n : Nat, w = (n : Int) := ⟨w.toNat, by omega⟩
  have s2 : Sd K W2 p := g2.i
  let S2 : Nat → SS := fun n => [some (.ref a), some (.ref p), some (.int (n : Nat)), none, none, none, none, none, none, none, none, none]
  show tSeq _ _ _ (S2 n0) W2.H
  suffices go : ∀ (n : Nat) (W3 : Wd), n ≤ 2000 → Md [p] W1 W3 → Sd K W3 p → (tSeq (tAsg (tCall (sp__law_ticks K) [] E0 (tCons (tVar 1) (tCons (tVar 2) tNil))) (gName 3)) _) _ (S2 n) W3.H by
    refine q_whenQ (ε := drd K p) (W := W2) (etq (ep_eq K (P := fun n => 0 ≤ n ∧ n < 8) (ev_draw (K := K) (σ := S2 n0) (i := 1) (p := p) (n := 8) rfl ev_int (by decide) (by decide)))) s2 (fun W3 g3 => ?_) (fun W3 g3 => go n0 W3 (by omega) (g2.md.trans g3.md) g3.i)
    refine (ep_add (m := 1500) (P := fun n => 0 ≤ n ∧ n < 500) (ev_draw (K := K) (σ := S2 n0) (W := W3) (i := 1) (p := p) (n := 500) rfl ev_int (by decide) (by decide))) W3 (.start g3.i) _ fun v W4 g4 ⟨r, er, hr⟩ => ?_
    subst er
    obtain ⟨m, hm⟩ : ∃ m : Nat, (1500 : Int) + r = (m : Nat) := ⟨(1500 + r).toNat, by omega⟩
    rw [hm]
    exact go m W4 (by omega) ((g2.md.trans g3.md).trans g4.md) g4.i
  intro n W3 hn m3 s3
  have t13 := t11.g m3 P1p
  have t23 := t21.g m3 P2p
  refine q_asgH ?_
  refine ⟨_, rfl, _, rfl, W3, p, n, rfl, rfl, s3, by omega, fun va bs W4 m4 s4 rva hbl => ?_⟩
  have t14 := t13.g m4 P1p
  have t24 := t23.g m4 P2p
  let S4 : SS := [some (.ref a), some (.ref p), some (.int (n : Nat)), some va, none, none, none, none, none, none, none, none]
  show tSeq _ _ _ S4 W4.H
  refine q_tupR2 (σ := S4) (H := W4.H) ?_
  intro x dx hx hdx hne
  have g5 : Grow W4 (W4.put dx (.own x) (W4.free hdx)) := W4.grow_put hdx
  have hx5 : (W4.put dx (.own x) (W4.free hdx)).H x = none := (upd_ne hne.symm).trans hx
  have g6 := (W4.put dx (.own x) (W4.free hdx)).grow_put (o := .ins C dx []) hx5
  have hb6 : ((W4.put dx (.own x) (W4.free hdx)).put x (.ins C dx []) (Wd.free _ hx5)).B x = none := W4.free hx
  have hh6 : ((W4.put dx (.own x) (W4.free hdx)).put x (.ins C dx []) (Wd.free _ hx5)).H x = some (.ins C dx []) := upd_same
  refine ⟨_, x, dx, rfl, rfl, hb6, hh6, fun W5 m5 r5 => ⟨rfl, ?_⟩⟩
  have G5 : Grow W4 W5 := Md.fresh (S := []) (g5.trans g6) m5 hx
  have xp : x ≠ p := fun z => s4.dom (z ▸ hx)
  have xP1 : x ≠ P1 := fun z => t14.nt.ne (z ▸ hx)
  have xP2 : x ≠ P2 := fun z => t24.nt.ne (z ▸ hx)
  have s5 := s4.g G5
  have xS : x ∉ (drd K p).S := by simpa [drd] using xp
  refine (ev_draw' (K := K) (σ := S4) (W := W5) (i := 1) (p := p) (n := (n : Int) + 1) rfl (ev_op (ev_var (i := 2) rfl eI) ev_int ro_I0) (by omega) (by omega)) W5 (.start s5) _ fun v5 W6 g6 ⟨at', ⟨a0, a1⟩, e5⟩ => ⟨Evl.sz_of (by show 2 ≤ 100000; decide), fun pt hpt => ⟨pt, [.ref x, v5], rfl, SqT.of upd_same, rfl, _, _, rfl, _, _, rfl, rfl, ?_⟩⟩
  rw [show v5 = V.int at' from e5]
  let W7 : Wd := W6.add pt (.tup [.ref x, .int at'])
  have g7 : Grow W6 W7 := W6.grow_add hpt
  have r7 := (r5.s g6 xS).gr g7
  have s7 : Sd K W7 p := (show Sd K W6 p from g6.i).g g7
  have t17 := ((t14.gr G5).g g6.md P1p).gr g7
  have t27 := ((t24.gr G5).g g6.md P2p).gr g7
  have rva7 := rep_g g7 (rep_s g6 (rep_g G5 rva))
  let S7 : SS := [some (.ref a), some (.ref p), some (.int (n : Nat)), some va, some (.ref x), some (.int at'), none, none, none, none, none, none]
  show tSeq _ _ _ S7 W7.H
  refine q_par (ε := pur) (σ := S7) (W := W7) (P := fun v W' => ∃ y, v = .ref y ∧ RunAt K W' C y 0 [] ∧ W7.H y = none) (R := fun u W' => rep K W'.B u ([] : List Bool)) (ep_twin (i := 4) rfl r7) (ev_lst (α := Bool) ea_nil (by decide)).p trivial (fun v W W' g ⟨y, e, r, f⟩ => ⟨y, e, r.gr g.pure, f⟩) fun v6 v7 W8 g8' ⟨y0, e6, ry0, fy0⟩ r70 => ?_
  subst e6
  have g8 := g8'.pure
  have s8 := s7.g g8
  have t18 := t17.gr g8
  have t28 := t27.gr g8
  have r8 := r7.gr g8
  have rva8 := rep_g g8 rva7
  have nbs : bs.length ≤ 2000 := by omega
  have y0n : y0 ≠ x ∧ y0 ≠ p ∧ y0 ≠ P1 ∧ y0 ≠ P2 := ⟨fun z => r7.nt.ne (z ▸ fy0), fun z => s7.dom (z ▸ fy0), fun z => t17.nt.ne (z ▸ fy0), fun z => t27.nt.ne (z ▸ fy0)⟩
  let Sl : V → V → Option V → Option V → SS := fun v6 v7 v8 v9 => [some (.ref a), some (.ref p), some (.int (n : Nat)), some va, some (.ref x), some (.int at'), some v6, some v7, v8, v9, none, none]
  show tSeq _ _ _ (Sl (.ref y0) v7 none none) W8.H
  refine q_for (ε := pur) (K := K) (W := W8) (σ := Sl (.ref y0) v7 none none) (xs := (rng 0 bs.length).zip bs) (ei_enum (ev_var (i := 3) rfl rva8)) trivial fun W9 g9 =>
    ⟨fun i σ W' => ∃ (y : Addr) (j : Nat) (v7 : V) (v8 v9 : Option V), σ = Sl (.ref y) v7 v8 v9 ∧ On W9 W' ∧ Md [x] W9 W' ∧ RunAt K W' C x i (Lf (marksF (bs.take i))) ∧ RunAt K W' C y j (Lf (marksF (bs.take j))) ∧ rep K W'.B v7 (bs.take j) ∧ j ≤ bs.length ∧ (y ≠ x ∧ y ≠ p ∧ y ≠ P1 ∧ y ≠ P2),
      ⟨y0, 0, v7, none, none, rfl, .refl _, .refl _ _, by have z := r8.gr g9.pure; simpa [marksF, Lf] using z, by have z := ry0.gr g9.pure; simpa [marksF, Lf] using z, by simpa using rep_s g9 r70, Nat.zero_le _, y0n⟩, fun i σ' W' ⟨_, _, _, _, _, _, o, _⟩ => o, ?_, ?_⟩
  · rintro i ⟨ki, b⟩ vx σ' W10' W10 hi hxi ⟨y, j, v7, v8, v9, rfl, o10', m10', r10', ry10', r710', hj, hy⟩ g10 rx
    rw [List.getElem?_zip_eq_some] at hxi
    have hib : i < bs.length := (List.getElem?_eq_some_iff.mp hxi.2).1
    have hk : ki = (i : Int) := by
      have := hxi.1
      rw [rng_get hib] at this
      have := Option.some.inj this
      omega
    subst hk
    have tk : bs.take (i + 1) = bs.take i ++ [b] := by rw [List.take_add_one, hxi.2]; rfl
    have tl : (bs.take i).length = i := by rw [List.length_take]; omega
    have tl1 : (bs.take (i + 1)).length = i + 1 := by rw [List.length_take]; omega
    refine gt_p2 rx fun u1 u2 ru1 ru2 => ?_
    rw [show u1 = V.int (i : Int) from ru1, show u2 = V.bl b from ru2]
    have o10 := o10'.trans g10.on
    have m10 := m10'.trans (Grow.s g10)
    have r10 := r10'.gr g10
    have ry10 := ry10'.gr g10
    have r710 := rep_g g10 r710'
    have base : ∀ {W' : Wd}, Md [x] W9 W' → Sd K W' p ∧ TabAt W' P1 q1 ∧ TabAt W' P2 q2 := fun m => ⟨(s8.g g9.pure).off m (by simpa using xp.symm), (t18.gr g9.pure).g m (by simpa using xP1.symm), (t28.gr g9.pure).g m (by simpa using xP2.symm)⟩
    show tSeq _ _ _ (Sl (.ref y) v7 (some (.int (i : Int))) (some (.bl b))) W10.H
    have cont : ∀ (W11 : Wd) (y : Addr) (j : Nat) (v7 : V), On W9 W11 → Md [x] W9 W11 → RunAt K W11 C x i (Lf (marksF (bs.take i))) → RunAt K W11 C y j (Lf (marksF (bs.take j))) → rep K W11.B v7 (bs.take j) → j ≤ bs.length → (y ≠ x ∧ y ≠ p ∧ y ≠ P1 ∧ y ≠ P2) →
        (tIfS (tOr (tTest (tOp oNotN (tMeth C "tick" (sp_Runs_tick K C) [] E0 (tVar 4) (tCons (tVar 9) tNil)) (tC .non))) (tAnd (tTest (tOp oLt (tVar 2) (tC (.int 61)))) (tNot (tB (tCall (sp__law_told_right K C) [] E0 (tCons (tVar 4) (tCons (tSl (rSlL K) (tVar 3) tNoPart (tPart (tOp oAdd (tVar 8) (tC (.int 1))))) tNil))))))) (tRet (tC (.bl false))) tNext)
          { nx := fun σ H => ∃ W, W.H = H ∧ ∃ (y : Addr) (j : Nat) (v7 : V) (v8 v9 : Option V), σ = Sl (.ref y) v7 v8 v9 ∧ On W9 W ∧ Md [x] W9 W ∧ RunAt K W C x (i + 1) (Lf (marksF (bs.take (i + 1)))) ∧ RunAt K W C y j (Lf (marksF (bs.take j))) ∧ rep K W.B v7 (bs.take j) ∧ j ≤ bs.length ∧ (y ≠ x ∧ y ≠ p ∧ y ≠ P1 ∧ y ≠ P2), rt := Q, bk := fun _ _ => False, ct := fun _ _ => False } (Sl (.ref y) v7 (some (.int (i : Int))) (some (.bl b))) W11.H := fun W11 y j v7 o11 m11 r11 ry11 r711 hj hy => by
      obtain ⟨dx, vh, hxx, _⟩ := r11.ex
      refine ⟨_, rfl, x, dx, _, rfl, hxx, rf_no kS_ti kS_ti2, _, rfl, .inl ⟨W11, x, i, _, b, rfl, rfl, r11, by omega, fun W12 m12 r12 => ⟨rfl, false, rfl, ?_⟩⟩⟩
      have r12' : RunAt K W12 C x (i + 1) (Lf (marksF (bs.take (i + 1)))) := by
        rw [tk, marks_snoc, tl]
        cases b
        · simpa using r12
        · rw [if_pos rfl, lf_snoc]
          simpa using r12
      have o12 := o11.trans m12.on
      have rvb : rep K W12.B va bs := rep_on o12 (rep_s g9 rva8)
      refine (et_and (ε := pur) (W := W12) (σ := Sl (.ref y) v7 (some (.int (i : Int))) (some (.bl b))) (a := decide ((n : Int) < 61)) (b := false) (et_test (ev_op (K := K) (ev_var (i := 2) rfl eI) ev_int ro_B0)) fun _ => (et_not (et_B (K := K) (b := true) (fun W13 g13 Q kk => ⟨_, rfl, ((ev_slL (K := K) (ε := pur) (σ := Sl (.ref y) v7 (some (.int (i : Int))) (some (.bl b))) (W := W13) (ev_var (i := 3) rfl (rep_s g13 rvb)) eo_none (eo_some (ev_op (ev_var (i := 8) rfl eI) ev_int ro_I0))).is (show cutL bs none (some ((i : Int) + 1)) = bs.take (i + 1) from cut_toN (n := i + 1))) W13 (.start trivial) _ fun v W14 g14 rv => ⟨W14, x, v, bs.take (i + 1), rfl, rfl, by rw [tl1]; exact (r12'.gr g13.pure).gr g14.pure, rv, by rw [tl1]; omega, fun W15 g15 => kk _ W15 (g14.and g15) rfl⟩⟩))).is rfl) W12 (.start trivial) _ fun W13 g13 => ?_
      rw [Bool.and_false]
      exact ⟨W13, rfl, y, j, v7, _, _, rfl, (o12.trans g13.on), (m11.trans m12).trans (Grow.s g13.pure), r12'.gr g13.pure, (ry11.g m12 (by simpa using hy.1)).gr g13.pure, rep_s g13 (rep_on m12.on r711), hj, hy⟩
    refine q_when (ε := pur) (σ := Sl (.ref y) v7 (some (.int (i : Int))) (some (.bl b))) (et_test (ev_op (K := K) (ev_var (i := 8) rfl eI) (ev_var (i := 5) rfl eI) ro_eqI)) trivial (fun _ W11 g11 => ?_) (fun _ W11 g11 => cont W11 y j v7 (o10.trans g11.on) (m10.trans (Grow.s g11.pure)) (r10.gr g11.pure) (ry10.gr g11.pure) (rep_s g11 r710) hj hy)
    have r11 := r10.gr g11.pure
    have m11 := m10.trans (Grow.s g11.pure)
    have rvb : rep K W11.B va bs := rep_s g11 (rep_on o10 (rep_s g9 rva8))
    refine s_parP (ε := pur) (W := W11) (σ := Sl (.ref y) v7 (some (.int (i : Int))) (some (.bl b))) (P := fun v W' => ∃ y, v = .ref y ∧ RunAt K W' C y i (Lf (marksF (bs.take i))) ∧ W11.H y = none) (R := fun u W' => rep K W'.B u (bs.take i)) (ep_twin (i := 4) rfl r11) ((ev_slL (K := K) (ev_var (i := 3) rfl rvb) eo_none (eo_some (ev_var (i := 8) rfl eI))).is (show cutL bs none (some (i : Int)) = bs.take i from cut_toN)).p trivial (fun v W W' g ⟨y, e, r, f⟩ => ⟨y, e, r.gr g.pure, f⟩) fun v6 v7' W12 g12 ⟨y', e6, ry', fy'⟩ r7' => ?_
    subst e6
    obtain ⟨bs1, bt1, bt2⟩ := base m11
    exact cont W12 y' i v7' ((o10.trans g11.on).trans g12.on) (m11.trans (Grow.s g12.pure)) (r11.gr g12.pure) ry' r7' (by omega) ⟨fun z => r11.nt.ne (z ▸ fy'), fun z => bs1.dom (z ▸ fy'), fun z => bt1.nt.ne (z ▸ fy'), fun z => bt2.nt.ne (z ▸ fy')⟩
  rintro σ' W10 ⟨y, j, v7, v8, v9, rfl, o10, m10, r10, ry10, r710, hj, hy⟩
  rw [List.length_zip, rng_len, Nat.min_self, List.take_length] at r10
  have s10 : Sd K W10 p := (s8.g g9.pure).off m10 (by simpa using xp.symm)
  have t110 : TabAt W10 P1 q1 := (t18.gr g9.pure).g m10 (by simpa using xP1.symm)
  have t210 : TabAt W10 P2 q2 := (t28.gr g9.pure).g m10 (by simpa using xP2.symm)
  have rva10 := rep_on o10 (rep_s g9 rva8)
  show tSeq _ _ _ (Sl (.ref y) v7 v8 v9) W10.H
  -- no truth
  let xs : List PyData := [.int 0, .int 1, .none, .str "yes", .list ([].map PyData.bool), .tuple ([true].map PyData.bool)]
  have odd : ∀ d ∈ xs, kitB (dcls d) "bool" = some false := fun d hd => by
    simp only [xs, List.mem_cons, List.not_mem_nil, or_false] at hd
    rcases hd with rfl | rfl | rfl | rfl | rfl | rfl <;> decide +kernel
  refine q_asgP (ε := drd K p) (ep_ixD (K := K) (xs := xs) (ev_lst (ea_cons (ev_dI ev_int) (ea_cons (ev_dI ev_int) (ea_cons (ev_dN ev_non) (ea_cons (ev_dS ev_str) (ea_cons (ev_dLB (ev_lst (α := Bool) ea_nil (by decide))) (ea_cons (ev_dTB (ev_tupN (ea_cons ev_bl ea_nil) (by decide))) ea_nil)))))) (by show 6 ≤ 100000; decide)) (ev_draw (i := 1) (p := p) (n := 6) rfl ev_int (by decide) (by decide))) s10 fun v10 W11 g11 ⟨d, hd, rd⟩ => ?_
  have r11 := r10.s g11 xS
  have ry11 := ry10.s g11 (by simpa [drd] using hy.2.1)
  have t111 := t110.g g11.md P1p
  have t211 := t210.g g11.md P2p
  have s11 : Sd K W11 p := g11.i
  have rva11 := rep_s g11 rva10
  have r711 := rep_s g11 r710
  let S11 : SS := [some (.ref a), some (.ref p), some (.int (n : Nat)), some va, some (.ref x), some (.int at'), some (.ref y), some v7, v8, v9, some v10, none]
  show tSeq _ _ _ S11 W11.H
  have xL : x ∉ (lamE P2 q2).S := by simpa [lamE] using xP2
  refine q_when (ε := lamE P2 q2) (b := false) ((et_or (a := false) (b := false) ((et_test (ev_op (K := K) (x := [SI.s "truth"]) (y := [SI.s "truth"]) (ev_rg (fs := []) rtr.l (fun W1 a f dd ha hf Q kk => rest_word rtr (.inr ⟨rfl, rfl⟩) ha hf kk) (fun W1 md E Q kk => by
      have rx1 := r11.g md (by simpa using xP2)
      obtain ⟨dx, vh, hxx, _⟩ := rx1.ex
      exact ⟨_, rfl, x, dx, _, rfl, hxx, rf_no kS_ti kS_ti2, _, rfl, .inr ⟨W1, .ref x, v10, rfl, rfl, kdno_dt (Py.mono (exExt md.b) rd) (odd d hd), fun W' g => kk W' none g (.non W')⟩⟩)) (ev_lst (xs := [SI.s "truth"]) (ea_cons (ev_sS ev_str) ea_nil) (by show 1 ≤ 100000; decide)) (ro_neT (by decide)))).is (by simp)) fun _ => (et_not (et_B (ev_told (i := 4) (j := 3) (bs := bs) rfl rfl (fun W' g => r11.s g xL) rva11 (by omega)))).is rfl).is rfl) t211 (fun z => by cases z) fun _ W12 g12 => ?_
  have r12 := r11.s g12 xL
  have ry12 := ry11.s g12 (by simpa [lamE] using hy.2.2.2)
  have P12 : P1 ∉ (lamE P2 q2).S := by simpa [lamE] using hP
  have t112 := t111.g g12.md P12
  have s12 : Sd K W12 p := s11.off g12.md (by simpa [lamE] using pP2)
  have rva12 := rep_on g12.on rva11
  have r712 := rep_on g12.on r711
  have tlj : (bs.take j).length = j := by rw [List.length_take]; omega
  have eqv : (!decide (decide (((bs.length : Int), flat 1 (Lf (marksF bs))) = ((j : Int), flat 1 (Lf (marksF (bs.take j))))) = decide (((bs.take j).length : Int) = (bs.length : Int)))) = false := by
    rw [tlj]
    by_cases e : j = bs.length
    · rw [e, List.take_length]
      simp
    · have n1 : ¬ (((bs.length : Int), flat 1 (Lf (marksF bs))) = ((j : Int), flat 1 (Lf (marksF (bs.take j))))) := fun z => e (by have := congrArg Prod.fst z; simp at this; omega)
      have n2 : ¬ ((j : Int) = (bs.length : Int)) := fun z => e (by omega)
      rw [decide_eq_false n1, decide_eq_false n2]
      rfl
  refine q_when (ε := pur) (b := false) (σ := S11) ((et_or (a := false) (b := false) ((et_not (et_B (ev_told (i := 6) (j := 7) (bs := bs.take j) rfl rfl (fun W' g => by rw [tlj]; exact ry12.gr g.pure) r712 (by rw [tlj]; omega)))).is rfl) fun _ => (et_test (ev_op (K := K) (ev_eqR (ev_rvar (i := 4) rfl) (ev_rvar (i := 6) rfl) (fun W' g => r12.gr g.pure) (fun W' g => ry12.gr g.pure)) (ev_op (ev_cb1 (ev_var (i := 7) rfl r712) rc_len) (ev_cb1 (ev_var (i := 3) rfl rva12) rc_len) ro_eqI) ro_neB)).is eqv).is rfl) trivial (fun z => by cases z) fun _ W13 g13 => ?_
  have r13 := r12.gr g13.pure
  refine q_asgP (ε := pur) (ep_twin (i := 4) rfl r13) trivial fun v11 W14 g14 ⟨z, ez, rz, fz⟩ => ?_
  subst ez
  have r14 := r13.gr g14.pure
  have xz : x ≠ z := fun e => r13.nt.ne (e ▸ fz)
  have G14 : Grow W12 W14 := g13.pure.trans g14.pure
  have s14 := s12.g G14
  have t114 := t112.gr G14
  have rva14 := rep_g G14 rva12
  let S14 : SS := [some (.ref a), some (.ref p), some (.int (n : Nat)), some va, some (.ref x), some (.int at'), some (.ref y), some v7, v8, v9, some v10, some (.ref z)]
  show tSeq _ _ _ S14 W14.H
  obtain ⟨dz, vz, hz, _⟩ := rz.ex
  refine ⟨_, rfl, z, dz, _, rfl, hz, rf_no kS_ti kS_ti2, .inl ⟨W14, z, bs.length, _, false, rfl, rfl, rz, by omega, fun W15 m15 rz15 => ?_⟩⟩
  have r15 := r14.g m15 (by simpa using xz)
  have fz12 : W12.H z = none := by
    cases q : W12.H z with
    | none => rfl
    | some o => exact absurd fz (g13.md.d z (by rw [q]; exact fun y => by cases y))
  have G15 : Grow W12 W15 := Md.fresh (S := []) G14 m15 fz12
  have s15 := s12.g G15
  have t115 := t112.gr G15
  have rva15 := rep_g G15 rva12
  show tSeq _ _ _ S14 W15.H
  have e1 : EvT pur (tNot (tTest (tOp (rInsEq C (sp_Runs___eq__ K C) E0) (tVar 4) (tMeth C "twin" (sp_Runs_twin K C) [] E0 (tVar 4) tNil)))) S14 W15 false := by
    refine (et_not (et_test (K := K) (b := true) (fun W16 g16 Q kk => ⟨_, rfl, ep_twin (i := 4) rfl (r15.gr g16.pure) W16 (.start trivial) _ fun v W17 g17 ⟨y2, ey, ry2, _⟩ => ?_⟩))).is rfl
    subst ey
    have rx := (r15.gr g16.pure).gr g17.pure
    obtain ⟨dx, vh, hx1, _⟩ := rx.ex
    obtain ⟨dy, vy, hy1, _⟩ := ry2.ex
    exact ⟨x, y2, dx, dy, _, _, rfl, rfl, hx1, hy1, .inl ⟨W17, x, y2, _, _, _, _, rfl, rfl, rx, ry2, fun W18 g18 => kk _ W18 (g17.and g18) (by simp; rfl)⟩⟩
  have e2 : EvT pur (tTest (tOp (rInsEq C (sp_Runs___eq__ K C) E0) (tVar 4) (tVar 11))) S14 W15 false := (et_test (ev_eqR (K := K) (ev_rvar (i := 4) rfl) (ev_rvar (i := 11) rfl) (fun W' g => r15.gr g.pure) (fun W' g => rz15.gr g.pure))).is (decide_eq_false fun e => by
    have := congrArg Prod.fst e
    simp at this
    omega)
  have e3 : EvT pur (tTest (tOp oNotIsB (tOp (rInsEqA K C (sp_Runs___eq__ K C) E0) (tVar 4) (tMeth C "groups" (sp_Runs_groups K C) [] E0 (tVar 4) tNil)) (tC (.bl false)))) S14 W15 false := by
    have eqF : EvR pur K (tOp (rInsEqA K C (sp_Runs___eq__ K C) E0) (tVar 4) (tMeth C "groups" (sp_Runs_groups K C) [] E0 (tVar 4) tNil)) S14 W15 false := fun W16 g16 Q kk => by
      have rx := r15.gr g16.pure
      obtain ⟨dx, vh, hx1, _⟩ := rx.ex
      refine ⟨_, rfl, _, rfl, x, dx, _, rfl, hx1, rf_no kS_gr kS_gr2, W16, x, _, _, rfl, rfl, rx, fun d ds W17 g17 f b e rs => ?_⟩
      have rx7 := rx.gr g17
      obtain ⟨dx7, vh7, hx7, _⟩ := rx7.ex
      have m7 : LMut K W17 d (flat 1 (Lf (marksF bs))) := ⟨b, ds, e, rs⟩
      exact ⟨x, dx7, _, .type "list", rfl, hx7, .base (.lst e), by unfold PySem.W.notFirst; rw [nf.1]; simp, .inr ⟨W17, x, .ref d, _, _, rfl, rfl, rx7, ⟨.type "list", fun W' g => by
        obtain ⟨us, e', _⟩ := (m7.gr g).ex
        exact .base (.lst e'), nf.2⟩, fun W18 g18 => kk _ W18 ((Stp.of g17).and g18) rfl⟩⟩
    exact (et_test (ev_op (K := K) eqF ev_bl ro_notIsB)).is (by decide)
  refine q_when (ε := pur) (b := false) ((et_or (a := false) (b := false) e1 fun _ => (et_or (a := false) (b := false) e2 fun _ => e3).is rfl).is rfl) trivial (fun z => by cases z) fun _ W16 g16 => ?_
  exact ⟨_, rfl, _, rfl, W16, p, va, bs, rfl, rfl, s15.g g16.pure, rep_s g16 rva15, by omega, t115.gr g16.pure, pP1, k⟩
end
end B
namespace B
open PySem L2 PyProof.Rows PySem.Spec
open Evl (Ex)
def relS (scope sc : Scope) : Scope := { scope with names := scope.names.map fun (n, k) => if (k == .free && sc.kind == .function && sc.names.lookup n == some .cell) then (n, .cell) else (n, k) }
theorem blkOk_in {X : Cx} {N : List Str} {scO sc scope : Scope} {own : List (Str × Nat)} {s : Shared} {H : Hp} {C : Addr} {cl : List (Str × Addr)} {fp : List Addr} (hN : X.N = N) (hsc : X.env.scope = sc) (h : blkC N (relS scO sc) scope own = true) : BlkOk (X.blk s H scO (compEnvC scO cl C X.env) fp).N (X.blk s H scO (compEnvC scO cl C X.env) fp).env.scope scope own := by
  subst hN hsc
  exact blkOk_by h
def topS (i : Nat) : Stmt := PySem.Challenge.pw_bygone_k58_groups_kept.main.body.getD i (.Pass ⟨0, 0, 0, 0⟩)
/-! NoTick.__init__ -/
abbrev s_NoTick___init__ : Stmt := inClass (topS 4) 0
theorem sc_NoTick___init__ : FnScope n_NoTick___init__ ["self", "at"] (defScope s_NoTick___init__) := ⟨rfl, rfl, rfl, by decide +kernel, rfl, by decide +kernel, by decide +kernel⟩
/-! is_tick -/
abbrev s_is_tick : Stmt := topS 6
theorem sc_is_tick : FnScope n_is_tick ["thing", "least", "most"] (defScope s_is_tick) := ⟨rfl, rfl, rfl, by decide +kernel, rfl, by decide +kernel, by decide +kernel⟩
/-! Runs.__init__ -/
abbrev s_Runs___init__ : Stmt := inClass (topS 7) 0
theorem sc_Runs___init__ : FnScope n_Runs___init__ ["self"] (defScope s_Runs___init__) := ⟨rfl, rfl, rfl, by decide +kernel, rfl, by decide +kernel, by decide +kernel⟩
/-! Runs.now -/
abbrev s_Runs_now : Stmt := inClass (topS 7) 1
theorem sc_Runs_now : FnScope n_Runs_now ["self"] (defScope s_Runs_now) := ⟨rfl, rfl, rfl, by decide +kernel, rfl, by decide +kernel, by decide +kernel⟩
/-! Runs.groups -/
abbrev s_Runs_groups : Stmt := inClass (topS 7) 2
theorem sc_Runs_groups : FnScope n_Runs_groups ["self"] (defScope s_Runs_groups) := ⟨rfl, rfl, rfl, by decide +kernel, rfl, by decide +kernel, by decide +kernel⟩
/-! Runs.twin -/
abbrev s_Runs_twin : Stmt := inClass (topS 7) 3
theorem sc_Runs_twin : FnScope n_Runs_twin ["self"] (defScope s_Runs_twin) := ⟨rfl, rfl, rfl, by decide +kernel, rfl, by decide +kernel, by decide +kernel⟩
/-! Runs.__eq__ -/
abbrev s_Runs___eq__ : Stmt := inClass (topS 7) 4
theorem sc_Runs___eq__ : FnScope n_Runs___eq__ ["self", "other"] (defScope s_Runs___eq__) := ⟨rfl, rfl, rfl, by decide +kernel, rfl, by decide +kernel, by decide +kernel⟩
/-! Runs.tick -/
abbrev s_Runs_tick : Stmt := inClass (topS 7) 5
theorem sc_Runs_tick : FnScope n_Runs_tick ["self", "marked"] (defScope s_Runs_tick) := ⟨rfl, rfl, rfl, by decide +kernel, rfl, by decide +kernel, by decide +kernel⟩
/-! runs_of -/
abbrev s_runs_of : Stmt := topS 8
theorem sc_runs_of : FnScope n_runs_of ["now", "ticks"] (defScope s_runs_of) := ⟨rfl, rfl, rfl, by decide +kernel, rfl, by decide +kernel, by decide +kernel⟩
/-! _law_begun -/
abbrev s__law_begun : Stmt := topS 10
theorem sc__law_begun : FnScope n__law_begun ["_law_script"] (defScope s__law_begun) := ⟨rfl, rfl, rfl, by decide +kernel, rfl, by decide +kernel, by decide +kernel⟩
/-! _law_draw -/
abbrev s__law_draw : Stmt := topS 11
theorem sc__law_draw : FnScope n__law_draw ["_law_state", "_law_many"] (defScope s__law_draw) := ⟨rfl, rfl, rfl, by decide +kernel, rfl, by decide +kernel, by decide +kernel⟩
/-! _law_ticks -/
abbrev s__law_ticks : Stmt := topS 12
theorem sc__law_ticks : FnScope n__law_ticks ["_law_state", "_law_many"] (defScope s__law_ticks) := ⟨rfl, rfl, rfl, by decide +kernel, rfl, by decide +kernel, by decide +kernel⟩
/-! _law_groups -/
abbrev s__law_groups : Stmt := topS 13
theorem sc__law_groups : FnScope n__law_groups ["_law_marked"] (defScope s__law_groups) := ⟨rfl, rfl, rfl, by decide +kernel, rfl, by decide +kernel, by decide +kernel⟩
/-! _law_told_right -/
abbrev s__law_told_right : Stmt := topS 14
theorem sc__law_told_right : FnScope n__law_told_right ["_law_runs", "_law_marked"] (defScope s__law_told_right) := ⟨rfl, rfl, rfl, by decide +kernel, rfl, by decide +kernel, by decide +kernel⟩
/-! _law_refusal -/
abbrev s__law_refusal : Stmt := topS 15
theorem sc__law_refusal : FnScope n__law_refusal ["_law_work"] (defScope s__law_refusal) := ⟨rfl, rfl, rfl, by decide +kernel, rfl, by decide +kernel, by decide +kernel⟩
/-! _law_whole -/
abbrev s__law_whole : Stmt := topS 16
theorem sc__law_whole : FnScope n__law_whole ["_law_thing"] (defScope s__law_whole) := ⟨rfl, rfl, rfl, by decide +kernel, rfl, by decide +kernel, by decide +kernel⟩
/-! _law_wrong_at -/
abbrev s__law_wrong_at : Stmt := topS 17
theorem sc__law_wrong_at : FnScope n__law_wrong_at ["_law_now", "_law_ticks_here"] (defScope s__law_wrong_at) := ⟨rfl, rfl, rfl, by decide +kernel, rfl, by decide +kernel, by decide +kernel⟩
/-! _law_given_right -/
abbrev s__law_given_right : Stmt := topS 18
theorem sc__law_given_right : FnScope n__law_given_right ["_law_state", "_law_marked"] (defScope s__law_given_right) := ⟨rfl, rfl, rfl, by decide +kernel, rfl, by decide +kernel, by decide +kernel⟩
/-! law -/
abbrev s_law : Stmt := topS 19
theorem sc_law : FnScope n_law ["_law_script"] (defScope s_law) := ⟨rfl, rfl, rfl, by decide +kernel, rfl, by decide +kernel, by decide +kernel⟩

structure Tx (K : Fg) (mg : Str → Option Value) where
  m_isinstance : mg "isinstance" = none
  m_int : mg "int" = none
  m_bool : mg "bool" = none
  m_list : mg "list" = none
  m_len : mg "len" = none
  m_max : mg "max" = none
  m_enumerate : mg "enumerate" = none
  m_tuple : mg "tuple" = none
  m_range : mg "range" = none
  m_abs : mg "abs" = none
  m_sorted : mg "sorted" = none
  f_NoTick___init__ : Addr
  d_NoTick___init__ : FuncData
  F_NoTick___init__ : Fun K "__init__" "NoTick.__init__" s_NoTick___init__ f_NoTick___init__ d_NoTick___init__
  b_NoTick___init__ : Binds K d_NoTick___init__ ["self", "at"] []
  f_is_tick : Addr
  d_is_tick : FuncData
  F_is_tick : Fun K "is_tick" "is_tick" s_is_tick f_is_tick d_is_tick
  b_is_tick : Binds K d_is_tick ["thing", "least", "most"] []
  g_is_tick : mg "is_tick" = some (.ref f_is_tick)
  f_Runs___init__ : Addr
  d_Runs___init__ : FuncData
  F_Runs___init__ : Fun K "__init__" "Runs.__init__" s_Runs___init__ f_Runs___init__ d_Runs___init__
  b_Runs___init__ : Binds K d_Runs___init__ ["self"] []
  f_Runs_now : Addr
  d_Runs_now : FuncData
  F_Runs_now : Fun K "now" "Runs.now" s_Runs_now f_Runs_now d_Runs_now
  b_Runs_now : Binds K d_Runs_now ["self"] []
  f_Runs_groups : Addr
  d_Runs_groups : FuncData
  F_Runs_groups : Fun K "groups" "Runs.groups" s_Runs_groups f_Runs_groups d_Runs_groups
  b_Runs_groups : Binds K d_Runs_groups ["self"] []
  f_Runs_twin : Addr
  d_Runs_twin : FuncData
  F_Runs_twin : Fun K "twin" "Runs.twin" s_Runs_twin f_Runs_twin d_Runs_twin
  b_Runs_twin : Binds K d_Runs_twin ["self"] []
  f_Runs___eq__ : Addr
  d_Runs___eq__ : FuncData
  F_Runs___eq__ : Fun K "__eq__" "Runs.__eq__" s_Runs___eq__ f_Runs___eq__ d_Runs___eq__
  b_Runs___eq__ : Binds K d_Runs___eq__ ["self", "other"] []
  f_Runs_tick : Addr
  d_Runs_tick : FuncData
  F_Runs_tick : Fun K "tick" "Runs.tick" s_Runs_tick f_Runs_tick d_Runs_tick
  b_Runs_tick : Binds K d_Runs_tick ["self", "marked"] []
  f_runs_of : Addr
  d_runs_of : FuncData
  F_runs_of : Fun K "runs_of" "runs_of" s_runs_of f_runs_of d_runs_of
  b_runs_of : Binds K d_runs_of ["now", "ticks"] []
  g_runs_of : mg "runs_of" = some (.ref f_runs_of)
  f__law_begun : Addr
  d__law_begun : FuncData
  F__law_begun : Fun K "_law_begun" "_law_begun" s__law_begun f__law_begun d__law_begun
  b__law_begun : Binds K d__law_begun ["_law_script"] []
  g__law_begun : mg "_law_begun" = some (.ref f__law_begun)
  f__law_draw : Addr
  d__law_draw : FuncData
  F__law_draw : Fun K "_law_draw" "_law_draw" s__law_draw f__law_draw d__law_draw
  b__law_draw : Binds K d__law_draw ["_law_state", "_law_many"] []
  g__law_draw : mg "_law_draw" = some (.ref f__law_draw)
  f__law_ticks : Addr
  d__law_ticks : FuncData
  F__law_ticks : Fun K "_law_ticks" "_law_ticks" s__law_ticks f__law_ticks d__law_ticks
  b__law_ticks : Binds K d__law_ticks ["_law_state", "_law_many"] []
  g__law_ticks : mg "_law_ticks" = some (.ref f__law_ticks)
  f__law_groups : Addr
  d__law_groups : FuncData
  F__law_groups : Fun K "_law_groups" "_law_groups" s__law_groups f__law_groups d__law_groups
  b__law_groups : Binds K d__law_groups ["_law_marked"] []
  g__law_groups : mg "_law_groups" = some (.ref f__law_groups)
  f__law_told_right : Addr
  d__law_told_right : FuncData
  F__law_told_right : Fun K "_law_told_right" "_law_told_right" s__law_told_right f__law_told_right d__law_told_right
  b__law_told_right : Binds K d__law_told_right ["_law_runs", "_law_marked"] []
  g__law_told_right : mg "_law_told_right" = some (.ref f__law_told_right)
  f__law_refusal : Addr
  d__law_refusal : FuncData
  F__law_refusal : Fun K "_law_refusal" "_law_refusal" s__law_refusal f__law_refusal d__law_refusal
  b__law_refusal : Binds K d__law_refusal ["_law_work"] []
  g__law_refusal : mg "_law_refusal" = some (.ref f__law_refusal)
  f__law_whole : Addr
  d__law_whole : FuncData
  F__law_whole : Fun K "_law_whole" "_law_whole" s__law_whole f__law_whole d__law_whole
  b__law_whole : Binds K d__law_whole ["_law_thing"] []
  g__law_whole : mg "_law_whole" = some (.ref f__law_whole)
  f__law_wrong_at : Addr
  d__law_wrong_at : FuncData
  F__law_wrong_at : Fun K "_law_wrong_at" "_law_wrong_at" s__law_wrong_at f__law_wrong_at d__law_wrong_at
  b__law_wrong_at : Binds K d__law_wrong_at ["_law_now", "_law_ticks_here"] []
  g__law_wrong_at : mg "_law_wrong_at" = some (.ref f__law_wrong_at)
  f__law_given_right : Addr
  d__law_given_right : FuncData
  F__law_given_right : FunC K "_law_given_right" "_law_given_right" s__law_given_right f__law_given_right d__law_given_right (tabC K "_law_given_right")
  b__law_given_right : Binds K d__law_given_right ["_law_state", "_law_marked"] []
  g__law_given_right : mg "_law_given_right" = some (.ref f__law_given_right)
  f_law : Addr
  d_law : FuncData
  F_law : FunC K "law" "law" s_law f_law d_law (tabC K "law")
  c_Runs : Addr
  g_Runs : mg "Runs" = some (.ref c_Runs)
  rc_Runs : RunsC K c_Runs
  K_Runs : Mk K c_Runs f_Runs___init__
  M_Runs_now : Meth K c_Runs "now" f_Runs_now
  M_Runs_groups : Meth K c_Runs "groups" f_Runs_groups
  M_Runs_twin : Meth K c_Runs "twin" f_Runs_twin
  M_Runs___eq__ : Meth K c_Runs "__eq__" f_Runs___eq__
  M_Runs_tick : Meth K c_Runs "tick" f_Runs_tick
  g_LeftError : mg "LeftError" = some (.ref (cErr K "LeftError"))
  g_NoNumber : mg "NoNumber" = some (.ref (cErr K "NoNumber"))
  g_NoTick : mg "NoTick" = some (.ref (cErr K "NoTick"))
  g_NoTruth : mg "NoTruth" = some (.ref (cErr K "NoTruth"))
  rc_NoNumber : BX.ErrC K (cErr K "NoNumber")
  rc_NoTruth : BX.ErrC K (cErr K "NoTruth")
  wd__law_given_right_law : tabP K "_law_given_right" ≠ tabP K "law"
  ri_NoTick : OexC K (cErr K "NoTick")
  ii_NoTick : PySem.W.findIn K (.ref (cErr K "NoTick")) "__init__" = some (some (.ref f_NoTick___init__))
  ti_NoTick : PySem.W.typeIn K (.ref f_NoTick___init__) = some (.type "function")
  xo_NoTick_at : PySem.W.findIn K (.ref (cErr K "NoTick")) "at" = some none
  xf_NoTick : XfC K (cErr K "NoTick")
  xe_NoTick : PySem.W.exmOne K (.ref (cErr K "NoTick")) (.ref (cErr K "NoTick")) = some true
  rf_NoTick : Refd K "NoTick"
  rf_NoNumber : Refd K "NoNumber"
  rf_NoTruth : Refd K "NoTruth"
  nf_Runs : PySem.W.subIn K (.type "list") (.ref c_Runs) = some false ∧ PySem.W.kitOne K (.type "list") (.ref c_Runs) = some false

section
variable {P : Program} {w : World} {K : Fg} {mg : Str → Option Value} {base : Heap}
theorem Tx.cl_Runs (T : Tx K mg) : Cls K T.c_Runs := T.rc_Runs.i.cl
theorem der_NoTick___init__ (T : Tx K mg) {cdv : Value} {A : Around} {outer : List Env} {s : Shared} {H : Hp} {E : XK} (hr : Room 0 (A.deeper (envOfC "NoTick.__init__" (defScope s_NoTick___init__) s.heap.objs.size T.f_NoTick___init__ cdv))) :
    PSs (cxOf CX0 P w K mg base n_NoTick___init__ "NoTick.__init__" (defScope s_NoTick___init__) T.f_NoTick___init__ cdv A outer s H E).nox (defBody s_NoTick___init__) (t_NoTick___init__ K) :=
  have nd := sc_NoTick___init__.nd
  (pss_one (ps_ost (pv 0) (pv 1)))
theorem ok_NoTick___init__ (T : Tx K mg) : FnOk P w K mg base CX0 1 T.f_NoTick___init__ T.d_NoTick___init__ ["self", "at"] (sp_NoTick___init__ K) :=
  T.F_NoTick___init__.ok sc_NoTick___init__ (fun vs H Q E h => len_NoTick___init__ h) (fun cdv A outer s H vs Q E hr h => ⟨t_NoTick___init__ K, der_NoTick___init__ T hr, rd_NoTick___init__ T.ri_NoTick T.xo_NoTick_at h⟩)
theorem der_is_tick (T : Tx K mg) {cdv : Value} {A : Around} {outer : List Env} {s : Shared} {H : Hp} {E : XK} (hr : Room 0 (A.deeper (envOfC "is_tick" (defScope s_is_tick) s.heap.objs.size T.f_is_tick cdv))) :
    PSs (cxOf CX0 P w K mg base n_is_tick "is_tick" (defScope s_is_tick) T.f_is_tick cdv A outer s H E).nox (defBody s_is_tick) (t_is_tick K) :=
  have nd := sc_is_tick.nd
  (pss_one (ps_ret (pe_and (pe_callB call_isi (by rfl) T.m_isinstance (by decide +kernel) (pa_cons (pv 0) (pa_cons (pe_bltn (by rfl) T.m_int (by decide +kernel) rfl) pa_nil))) (pe_and (pe_not (pe_callB call_isi (by rfl) T.m_isinstance (by decide +kernel) (pa_cons (pv 0) (pa_cons (pe_bltn (by rfl) T.m_bool (by decide +kernel) rfl) pa_nil)))) (pe_one (pe_chain op_le op_le (pv 1) (pv 0) (pv 2)))))))
theorem ok_is_tick (T : Tx K mg) : FnOk P w K mg base CX0 1 T.f_is_tick T.d_is_tick ["thing", "least", "most"] (sp_is_tick K) :=
  T.F_is_tick.ok sc_is_tick (fun vs H Q E h => len_is_tick h) (fun cdv A outer s H vs Q E hr h => ⟨t_is_tick K, der_is_tick T hr, rd_is_tick h⟩)
theorem der_Runs___init__ (T : Tx K mg) {cdv : Value} {A : Around} {outer : List Env} {s : Shared} {H : Hp} {E : XK} (hr : Room 0 (A.deeper (envOfC "Runs.__init__" (defScope s_Runs___init__) s.heap.objs.size T.f_Runs___init__ cdv))) :
    PSs (cxOf CX0 P w K mg base n_Runs___init__ "Runs.__init__" (defScope s_Runs___init__) T.f_Runs___init__ cdv A outer s H E).nox (defBody s_Runs___init__) (t_Runs___init__ K T.c_Runs) :=
  have nd := sc_Runs___init__.nd
  (pss_cons (ps_fld (pv 0) pe_int rfl)
  (pss_one (ps_fld (pv 0) (pe_lst pa_nil) rfl)))
theorem ok_Runs___init__ (T : Tx K mg) : FnOk P w K mg base CX0 1 T.f_Runs___init__ T.d_Runs___init__ ["self"] (sp_Runs___init__ K T.c_Runs) :=
  T.F_Runs___init__.ok sc_Runs___init__ (fun vs H Q E h => len_Runs___init__ h) (fun cdv A outer s H vs Q E hr h => ⟨t_Runs___init__ K T.c_Runs, der_Runs___init__ T hr, rd_Runs___init__ T.rc_Runs h⟩)
theorem der_Runs_now (T : Tx K mg) {cdv : Value} {A : Around} {outer : List Env} {s : Shared} {H : Hp} {E : XK} (hr : Room 0 (A.deeper (envOfC "Runs.now" (defScope s_Runs_now) s.heap.objs.size T.f_Runs_now cdv))) :
    PSs (cxOf CX0 P w K mg base n_Runs_now "Runs.now" (defScope s_Runs_now) T.f_Runs_now cdv A outer s H E).nox (defBody s_Runs_now) (t_Runs_now K T.c_Runs) :=
  have nd := sc_Runs_now.nd
  (pss_one (ps_ret (pe_fld (pv 0) rfl)))
theorem ok_Runs_now (T : Tx K mg) : FnOk P w K mg base CX0 1 T.f_Runs_now T.d_Runs_now ["self"] (sp_Runs_now K T.c_Runs) :=
  T.F_Runs_now.ok sc_Runs_now (fun vs H Q E h => len_Runs_now h) (fun cdv A outer s H vs Q E hr h => ⟨t_Runs_now K T.c_Runs, der_Runs_now T hr, rd_Runs_now T.rc_Runs h⟩)
theorem der_Runs_groups (T : Tx K mg) {cdv : Value} {A : Around} {outer : List Env} {s : Shared} {H : Hp} {E : XK} (hr : Room 0 (A.deeper (envOfC "Runs.groups" (defScope s_Runs_groups) s.heap.objs.size T.f_Runs_groups cdv))) :
    PSs (cxOf CX0 P w K mg base n_Runs_groups "Runs.groups" (defScope s_Runs_groups) T.f_Runs_groups cdv A outer s H E).nox (defBody s_Runs_groups) (t_Runs_groups K T.c_Runs) :=
  have nd := sc_Runs_groups.nd
  (pss_one (ps_ret (pe_callTy cr_listO (by rfl) T.m_list (by decide +kernel) (pa_cons (pe_fld (pv 0) rfl) pa_nil))))
theorem ok_Runs_groups (T : Tx K mg) : FnOk P w K mg base CX0 1 T.f_Runs_groups T.d_Runs_groups ["self"] (sp_Runs_groups K T.c_Runs) :=
  T.F_Runs_groups.ok sc_Runs_groups (fun vs H Q E h => len_Runs_groups h) (fun cdv A outer s H vs Q E hr h => ⟨t_Runs_groups K T.c_Runs, der_Runs_groups T hr, rd_Runs_groups T.rc_Runs h⟩)
theorem der_Runs_twin (T : Tx K mg) {cdv : Value} {A : Around} {outer : List Env} {s : Shared} {H : Hp} {E : XK} (hr : Room 2 (A.deeper (envOfC "Runs.twin" (defScope s_Runs_twin) s.heap.objs.size T.f_Runs_twin cdv))) :
    PSs (cxOf CX0 P w K mg base n_Runs_twin "Runs.twin" (defScope s_Runs_twin) T.f_Runs_twin cdv A outer s H E).nox (defBody s_Runs_twin) (t_Runs_twin K T.c_Runs) :=
  have nd := sc_Runs_twin.nd
  (pss_cons (ps_set (i := 1) nd rfl (Or.inl rfl) (pe_make0 T.K_Runs (ok_Runs___init__ T) (hr.mono (by decide)) (by rfl) T.g_Runs T.b_Runs___init__ .nil pass0))
  (pss_cons (ps_fld (pv 1) (pe_fld (pv 0) rfl) rfl)
  (pss_cons (ps_fld (pv 1) (pe_callTy cr_listO (by rfl) T.m_list (by decide +kernel) (pa_cons (pe_fld (pv 0) rfl) pa_nil)) rfl)
  (pss_one (ps_ret (pv 1))))))
theorem ok_Runs_twin (T : Tx K mg) : FnOk P w K mg base CX0 3 T.f_Runs_twin T.d_Runs_twin ["self"] (sp_Runs_twin K T.c_Runs) :=
  T.F_Runs_twin.ok sc_Runs_twin (fun vs H Q E h => len_Runs_twin h) (fun cdv A outer s H vs Q E hr h => ⟨t_Runs_twin K T.c_Runs, der_Runs_twin T hr, rd_Runs_twin T.rc_Runs h⟩)
theorem der_Runs___eq__ (T : Tx K mg) {cdv : Value} {A : Around} {outer : List Env} {s : Shared} {H : Hp} {E : XK} (hr : Room 0 (A.deeper (envOfC "Runs.__eq__" (defScope s_Runs___eq__) s.heap.objs.size T.f_Runs___eq__ cdv))) :
    PSs (cxOf CX0 P w K mg base n_Runs___eq__ "Runs.__eq__" (defScope s_Runs___eq__) T.f_Runs___eq__ cdv A outer s H E).nox (defBody s_Runs___eq__) (t_Runs___eq__ K T.c_Runs) :=
  have nd := sc_Runs___eq__.nd
  (pss_cons (ps_if (pt_not (pt_val (pe_callB call_isi (by rfl) T.m_isinstance (by decide +kernel) (pa_cons (pv 1) (pa_cons (pe_glob (by rfl) T.g_Runs rfl) pa_nil))))) (pss_one (ps_ret pe_bl)) pss_nil)
  (pss_one (ps_ret (pe_cmpR (op_eqT hr.units) (pe_tup (pa_cons (pe_fld (pv 0) rfl) (pa_cons (pe_fld (pv 0) rfl) pa_nil))) (pe_tup (pa_cons (pe_fld (pv 1) rfl) (pa_cons (pe_fld (pv 1) rfl) pa_nil))) (nomark _)))))
theorem ok_Runs___eq__ (T : Tx K mg) : FnOk P w K mg base CX0 1 T.f_Runs___eq__ T.d_Runs___eq__ ["self", "other"] (sp_Runs___eq__ K T.c_Runs) :=
  T.F_Runs___eq__.ok sc_Runs___eq__ (fun vs H Q E h => len_Runs___eq__ h) (fun cdv A outer s H vs Q E hr h => ⟨t_Runs___eq__ K T.c_Runs, der_Runs___eq__ T hr, rd_Runs___eq__ T.rc_Runs h⟩)
theorem der_Runs_tick (T : Tx K mg) {cdv : Value} {A : Around} {outer : List Env} {s : Shared} {H : Hp} {E : XK} (hr : Room 0 (A.deeper (envOfC "Runs.tick" (defScope s_Runs_tick) s.heap.objs.size T.f_Runs_tick cdv))) :
    PSs (cxOf (L2.CX P w) P w K mg base n_Runs_tick "Runs.tick" (defScope s_Runs_tick) T.f_Runs_tick cdv A outer s H E) (defBody s_Runs_tick) (t_Runs_tick K T.c_Runs E) :=
  have nd := sc_Runs_tick.nd
  (pss_cons (ps_if (pt_not (pt_val (pe_callB call_isi (by rfl) T.m_isinstance (by decide +kernel) (pa_cons (pv 1) (pa_cons (pe_bltn (by rfl) T.m_bool (by decide +kernel) rfl) pa_nil))))) (pss_one (BX.ps_raiseO T.rc_NoTruth T.g_NoTruth rfl rfl rfl rfl rfl (by rfl))) pss_nil)
  (pss_cons (ps_fldaug (pv 0) pe_int in_add)
  (pss_cons (ps_if (pt_not (pt_val (pv 1))) (pss_one ps_retN) pss_nil)
  (pss_cons (ps_fld (pv 0) (pe_op op_cat (pe_lst (pa_cons (pe_tup (pa_cons pe_int (pa_cons (pe_fld (pv 0) rfl) pa_nil))) pa_nil)) (pe_fld (pv 0) rfl)) rfl)
  (pss_cons (ps_set (i := 2) nd rfl (Or.inr rfl) pe_int)
  (pss_one (ps_while (passes_of rfl) (pt_cmpR op_eq (pe_callB cr_len (by rfl) T.m_len (by decide +kernel) (pa_cons (pe_lc (own := [("one", 3)]) rfl nd (pi_list (pe_fld (pv 0) rfl)) (blkOk_by (own := [("one", 3)]) (N := n_Runs_tick) (sc := defScope s_Runs_tick) (by decide +kernel)) (fun _ _ _ _ _ => (pg_name (i := 3) nd rfl (by first | exact Or.inl rfl | exact Or.inr rfl))) (fun _ _ _ _ _ => (pts_one (pt_cmpR op_eq (pe_ix ix_tup (pv 3) pe_int (fun _ _ => rfl)) (pv 2) (nomark _)))) (fun _ _ _ _ _ => (pv 3))) pa_nil)) pe_int (nomark _))
  (pss_cons (ps_set (i := 4) nd rfl (Or.inl rfl) (pe_callB (cr_max rfl) (by rfl) T.m_max (by decide +kernel) (pa_cons (pe_lc (own := [("k", 5), ("one", 3)]) rfl nd (pi_enum rfl T.m_enumerate (pa_cons (pe_fld (pv 0) rfl) pa_nil)) (blkOk_by (own := [("k", 5), ("one", 3)]) (N := n_Runs_tick) (sc := defScope s_Runs_tick) (by decide +kernel)) (fun _ _ _ _ _ => (pg_tup rfl (pgs_cons (pg_name (i := 5) nd rfl (by first | exact Or.inl rfl | exact Or.inr rfl)) (pgs_cons (pg_name (i := 3) nd rfl (by first | exact Or.inl rfl | exact Or.inr rfl)) pgs_nil)))) (fun _ _ _ _ _ => (pts_one (pt_cmpR op_eq (pe_ix ix_tup (pv 3) pe_int (fun _ _ => rfl)) (pv 2) (nomark _)))) (fun _ _ _ _ _ => (pv 5))) pa_nil)))
  (pss_cons (ps_fld (pv 0) (pe_op op_cat (pe_op op_cat (pe_slice sl_list (pe_fld (pv 0) rfl) po_none (po_some (pe_op op_sub (pv 4) pe_int))) (pe_lst (pa_cons (pe_tup (pa_cons (pe_op op_mul pe_int (pv 2)) (pa_cons (pe_ix ix_tup (pe_ix ix_list (pe_fld (pv 0) rfl) (pe_op op_sub (pv 4) pe_int) (fun _ _ => rfl)) pe_int (fun _ _ => rfl)) pa_nil))) pa_nil))) (pe_slice sl_list (pe_fld (pv 0) rfl) (po_some (pe_op op_add (pv 4) pe_int)) po_none)) rfl)
  (pss_one (ps_set (i := 2) nd rfl (Or.inr rfl) (pe_op op_mul pe_int (pv 2)))))))))))))
theorem ok_Runs_tick (T : Tx K mg) : FnOk P w K mg base (L2.CX P w) 1 T.f_Runs_tick T.d_Runs_tick ["self", "marked"] (sp_Runs_tick K T.c_Runs) :=
  T.F_Runs_tick.okX sc_Runs_tick (fun vs H Q E h => len_Runs_tick h) (fun cdv A outer s H vs Q E hr h => ⟨t_Runs_tick K T.c_Runs E, der_Runs_tick T hr, rd_Runs_tick T.rc_Runs h⟩)
theorem der_runs_of (T : Tx K mg) {cdv : Value} {A : Around} {outer : List Env} {s : Shared} {H : Hp} {E : XK} (hr : Room 2 (A.deeper (envOfC "runs_of" (defScope s_runs_of) s.heap.objs.size T.f_runs_of cdv))) :
    PSs (cxOf (L2.CX P w) P w K mg base n_runs_of "runs_of" (defScope s_runs_of) T.f_runs_of cdv A outer s H E) (defBody s_runs_of) (t_runs_of K T.c_Runs E) :=
  have nd := sc_runs_of.nd
  (pss_cons (ps_if (PW.pt (pw_or (pt_not (pt_val (pe_callB call_isi (by rfl) T.m_isinstance (by decide +kernel) (pa_cons (pv 0) (pa_cons (pe_bltn (by rfl) T.m_int (by decide +kernel) rfl) pa_nil))))) (pw_or (pt_val (pe_callB call_isi (by rfl) T.m_isinstance (by decide +kernel) (pa_cons (pv 0) (pa_cons (pe_bltn (by rfl) T.m_bool (by decide +kernel) rfl) pa_nil)))) (pw_or1 (pt_cmpR op_lt (pv 0) pe_int (nomark _)))))) (pss_one (BX.ps_raiseO T.rc_NoNumber T.g_NoNumber rfl rfl rfl rfl rfl (by rfl))) pss_nil)
  (pss_cons (ps_if (pt_not (pt_val (pe_callB call_isiT (by rfl) T.m_isinstance (by decide +kernel) (pa_cons (pv 1) (pa_cons (pe_tup (pa_cons (pe_bltn (by rfl) T.m_list (by decide +kernel) rfl) (pa_cons (pe_bltn (by rfl) T.m_tuple (by decide +kernel) rfl) pa_nil))) pa_nil))))) (pss_one (BE.ps_raiseI T.ri_NoTick T.ii_NoTick T.ti_NoTick (ok_NoTick___init__ T) pass0 (hr.mono (by decide)) T.b_NoTick___init__ (by rfl) T.g_NoTick (pa_cons pe_int pa_nil) rfl rfl rfl rfl rfl)) pss_nil)
  (pss_cons (ps_set (i := 2) nd rfl (Or.inl rfl) pe_int)
  (pss_cons (ps_for (passes_of rfl) rfl (BY.pi_enumSeq rfl T.m_enumerate (pa_cons (pv 1) pa_nil)) (pg_tup rfl (pgs_cons (pg_name (i := 3) nd rfl (by first | exact Or.inl rfl | exact Or.inr rfl)) (pgs_cons (pg_name (i := 4) nd rfl (by first | exact Or.inl rfl | exact Or.inr rfl)) pgs_nil)))
  (pss_cons (ps_if (pt_not (pt_val (pe_call (ok_is_tick T) (hr.mono (by decide)) (by rfl) T.g_is_tick T.F_is_tick.kp T.b_is_tick .nil pass0 (pa_cons (pv 4) (pa_cons (pe_op op_add (pv 2) pe_int) (pa_cons (pv 0) pa_nil)))))) (pss_one (BE.ps_raiseI T.ri_NoTick T.ii_NoTick T.ti_NoTick (ok_NoTick___init__ T) pass0 (hr.mono (by decide)) T.b_NoTick___init__ (by rfl) T.g_NoTick (pa_cons (pv 3) pa_nil) rfl rfl rfl rfl rfl)) pss_nil)
  (pss_one (ps_set (i := 2) nd rfl (Or.inl rfl) (pv 4)))))
  (pss_cons (ps_par (i := 5) (j := 6) rfl nd rfl rfl (by decide) rfl rfl (pa_cons (pe_make0 T.K_Runs (ok_Runs___init__ T) (hr.mono (by decide)) (by rfl) T.g_Runs T.b_Runs___init__ .nil pass0) (pa_cons (pe_dc (own := [("tick", 4)]) rfl nd (BY.pi_seq (pv 1)) (blkOk_by (own := [("tick", 4)]) (N := n_runs_of) (sc := defScope s_runs_of) (by decide +kernel)) (fun _ _ _ _ _ => (pg_name (i := 4) nd rfl (by first | exact Or.inl rfl | exact Or.inr rfl))) (fun _ _ _ _ _ => pts_nil) (fun _ _ _ _ _ => (pv 4)) (fun _ _ _ _ _ => pe_bl)) pa_nil)) (by rfl))
  (pss_cons (ps_for (passes_of rfl) rfl (pi_range2 rfl T.m_range (pa_cons pe_int (pa_cons (pe_op op_add (pv 0) pe_int) pa_nil))) (pg_name (i := 4) nd rfl (by first | exact Or.inl rfl | exact Or.inr rfl))
  (pss_one (ps_expr (pe_meth (pv 5) T.cl_Runs T.M_Runs_tick (ok_Runs_tick T) (hr.mono (by decide)) T.b_Runs_tick .nil (passE rfl rfl rfl rfl) (pa_cons (pe_cmp (pc_din (hu_of hr) (pv 4) (pv 6))) pa_nil)))))
  (pss_one (ps_ret (pv 5)))))))))
theorem ok_runs_of (T : Tx K mg) : FnOk P w K mg base (L2.CX P w) 3 T.f_runs_of T.d_runs_of ["now", "ticks"] (sp_runs_of K T.c_Runs) :=
  T.F_runs_of.okX sc_runs_of (fun vs H Q E h => len_runs_of h) (fun cdv A outer s H vs Q E hr h => ⟨t_runs_of K T.c_Runs E, der_runs_of T hr, rd_runs_of T.rc_Runs h⟩)
theorem der__law_begun (T : Tx K mg) {cdv : Value} {A : Around} {outer : List Env} {s : Shared} {H : Hp} {E : XK} (hr : Room 0 (A.deeper (envOfC "_law_begun" (defScope s__law_begun) s.heap.objs.size T.f__law_begun cdv))) :
    PSs (cxOf CX0 P w K mg base n__law_begun "_law_begun" (defScope s__law_begun) T.f__law_begun cdv A outer s H E).nox (defBody s__law_begun) (t__law_begun K) :=
  have nd := sc__law_begun.nd
  (pss_one (ps_ret (pe_disp (pps_cons pe_str (pe_lc (own := [("_law_cell", 1)]) rfl nd (pi_list (pe_slice sl_list (pv 0) po_none (po_some pe_int))) (blkOk_by (own := [("_law_cell", 1)]) (N := n__law_begun) (sc := defScope s__law_begun) (by decide +kernel)) (fun _ _ _ _ _ => (pg_name (i := 1) nd rfl (by first | exact Or.inl rfl | exact Or.inr rfl))) (fun _ _ _ _ _ => pts_nil) (fun _ _ _ _ _ => (pe_callB cr_abs (by rfl) T.m_abs (by decide +kernel) (pa_cons (pv 1) pa_nil)))) (pps_cons pe_str pe_int (pps_cons pe_str pe_int (pps_cons pe_str pe_int (pps_cons pe_str (pe_op op_add pe_int (pe_callB cr_len (by rfl) T.m_len (by decide +kernel) (pa_cons (pv 0) pa_nil))) pps_nil))))) (by rfl) (by rfl) (fun z => by cases z) (by decide))))
theorem ok__law_begun (T : Tx K mg) : FnOk P w K mg base CX0 1 T.f__law_begun T.d__law_begun ["_law_script"] (sp__law_begun K) :=
  T.F__law_begun.ok sc__law_begun (fun vs H Q E h => len__law_begun h) (fun cdv A outer s H vs Q E hr h => ⟨t__law_begun K, der__law_begun T hr, rd__law_begun h⟩)
theorem der__law_draw (T : Tx K mg) {cdv : Value} {A : Around} {outer : List Env} {s : Shared} {H : Hp} {E : XK} (hr : Room 0 (A.deeper (envOfC "_law_draw" (defScope s__law_draw) s.heap.objs.size T.f__law_draw cdv))) :
    PSs (cxOf CX0 P w K mg base n__law_draw "_law_draw" (defScope s__law_draw) T.f__law_draw cdv A outer s H E).nox (defBody s__law_draw) (t__law_draw K) :=
  have nd := sc__law_draw.nd
  (pss_cons (ps_set (i := 2) nd rfl (Or.inl rfl) (pe_dget (hu_of hr) (pv 0) pe_str (fun _ _ => rfl)))
  (pss_cons (ps_while PassesOwn.never (PW.pt (pw_and (pt_cmpR op_lt (pe_dget (hu_of hr) (pv 0) pe_str (fun _ _ => rfl)) pe_int (nomark _)) (pw_and1 (pt_cmpR op_lt (pe_dget (hu_of hr) (pv 0) pe_str (fun _ _ => rfl)) (pe_callB cr_len (by rfl) T.m_len (by decide +kernel) (pa_cons (pv 2) pa_nil)) (nomark _)))))
  (pss_cons (ps_if (pt_cmpR op_ge (pe_ix ix_list (pv 2) (pe_dget (hu_of hr) (pv 0) pe_str (fun _ _ => rfl)) (fun _ _ => rfl)) (pe_op op_pow pe_int pe_int) (nomark _)) (pss_one (ps_dput (hu_of hr) (pv 0) pe_str (pe_ix ix_list (pv 2) (pe_dget (hu_of hr) (pv 0) pe_str (fun _ _ => rfl)) (fun _ _ => rfl)) rfl)) pss_nil)
  (pss_one (ps_dput (hu_of hr) (pv 0) pe_str (pe_op op_add (pe_dget (hu_of hr) (pv 0) pe_str (fun _ _ => rfl)) pe_int) rfl))))
  (pss_cons (ps_if (pt_cmpR op_gt (pe_dget (hu_of hr) (pv 0) pe_str (fun _ _ => rfl)) pe_int (nomark _)) (pss_cons (ps_set (i := 3) nd rfl (Or.inl rfl) (pe_op op_mod (pe_dget (hu_of hr) (pv 0) pe_str (fun _ _ => rfl)) (pv 1)))
  (pss_cons (ps_dput (hu_of hr) (pv 0) pe_str (pe_op op_fdiv (pe_dget (hu_of hr) (pv 0) pe_str (fun _ _ => rfl)) (pv 1)) rfl)
  (pss_one (ps_ret (pv 3))))) pss_nil)
  (pss_cons (ps_set (i := 4) nd rfl (Or.inl rfl) (pe_ifExp (pt_cmpR (op_neT hr.units) (pv 2) (pe_lst pa_nil) (nomark _)) (pe_ix ix_list (pv 2) (pe_op op_mod (pe_dget (hu_of hr) (pv 0) pe_str (fun _ _ => rfl)) (pe_callB cr_len (by rfl) T.m_len (by decide +kernel) (pa_cons (pv 2) pa_nil))) (fun _ _ => rfl)) pe_int))
  (pss_cons (ps_dput (hu_of hr) (pv 0) pe_str (pe_op op_add (pe_dget (hu_of hr) (pv 0) pe_str (fun _ _ => rfl)) pe_int) rfl)
  (pss_cons (ps_dput (hu_of hr) (pv 0) pe_str (pe_op op_mod (pe_op op_add (pe_op op_add (pe_op op_mul (pe_dget (hu_of hr) (pv 0) pe_str (fun _ _ => rfl)) pe_int) (pv 4)) (pe_dget (hu_of hr) (pv 0) pe_str (fun _ _ => rfl))) pe_int) rfl)
  (pss_one (ps_ret (pe_op op_mod (pe_op op_mod (pe_op op_add (pe_op op_mul (pe_dget (hu_of hr) (pv 0) pe_str (fun _ _ => rfl)) (pe_dget (hu_of hr) (pv 0) pe_str (fun _ _ => rfl))) (pe_op op_mul pe_int (pe_dget (hu_of hr) (pv 0) pe_str (fun _ _ => rfl)))) pe_int) (pv 1))))))))))
theorem ok__law_draw (T : Tx K mg) : FnOk P w K mg base CX0 1 T.f__law_draw T.d__law_draw ["_law_state", "_law_many"] (sp__law_draw K) :=
  T.F__law_draw.ok sc__law_draw (fun vs H Q E h => len__law_draw h) (fun cdv A outer s H vs Q E hr h => ⟨t__law_draw K, der__law_draw T hr, rd__law_draw h⟩)
theorem der__law_ticks (T : Tx K mg) {cdv : Value} {A : Around} {outer : List Env} {s : Shared} {H : Hp} {E : XK} (hr : Room 1 (A.deeper (envOfC "_law_ticks" (defScope s__law_ticks) s.heap.objs.size T.f__law_ticks cdv))) :
    PSs (cxOf CX0 P w K mg base n__law_ticks "_law_ticks" (defScope s__law_ticks) T.f__law_ticks cdv A outer s H E).nox (defBody s__law_ticks) (t__law_ticks K) :=
  have nd := sc__law_ticks.nd
  (pss_cons (ps_par3 (i := 2) (j := 3) (l := 4) rfl nd rfl rfl rfl (by decide) (by decide) (by decide) rfl rfl rfl (pa_cons (pe_call (ok__law_draw T) (hr.mono (by decide)) (by rfl) T.g__law_draw T.F__law_draw.kp T.b__law_draw .nil pass0 (pa_cons (pv 0) (pa_cons pe_int pa_nil))) (pa_cons (pe_op op_add pe_int (pe_call (ok__law_draw T) (hr.mono (by decide)) (by rfl) T.g__law_draw T.F__law_draw.kp T.b__law_draw .nil pass0 (pa_cons (pv 0) (pa_cons pe_int pa_nil)))) (pa_cons (pe_lst pa_nil) pa_nil))) (by rfl))
  (pss_cons (ps_for PassesOwn.never rfl (pi_range1 rfl T.m_range (pa_cons (pv 1) pa_nil)) (pg_name (i := 5) nd rfl (by first | exact Or.inl rfl | exact Or.inr rfl))
  (pss_cons (ps_set (i := 6) nd rfl (Or.inl rfl) (pe_ix ix_list (pe_lst (pa_cons (pe_cmpR op_eq (pe_op op_mod (pe_op op_fdiv (pv 5) (pe_op op_add pe_int (pv 3))) pe_int) pe_int (nomark _)) (pa_cons (pe_cmpR op_gt (pe_op op_mod (pv 5) (pe_op op_mul pe_int (pv 3))) (pv 3) (nomark _)) pa_nil))) (pe_op op_mod (pv 2) pe_int) (fun _ _ => rfl)))
  (pss_one (ps_expr (pe_bm PySem.F.plainAttrs_list PySem.F.slot_list_append PySem.F.type_list_append mt_append (pv 4) (pa_cons (pe_ifExp (pt_cmpR op_ne (pv 2) pe_int (nomark _)) (pe_ix ix_list (pe_lst (pa_cons (pe_cmpR op_eq (pe_call (ok__law_draw T) (hr.mono (by decide)) (by rfl) T.g__law_draw T.F__law_draw.kp T.b__law_draw .nil pass0 (pa_cons (pv 0) (pa_cons (pv 3) pa_nil))) pe_int (nomark _)) (pa_cons pe_bl (pa_cons (pv 6) (pa_cons (pv 6) pa_nil))))) (pv 2) (fun _ _ => rfl)) (pe_cmpR op_lt (pv 3) pe_int (nomark _))) pa_nil))))))
  (pss_one (ps_ret (pv 4)))))
theorem ok__law_ticks (T : Tx K mg) : FnOk P w K mg base CX0 2 T.f__law_ticks T.d__law_ticks ["_law_state", "_law_many"] (sp__law_ticks K) :=
  T.F__law_ticks.ok sc__law_ticks (fun vs H Q E h => len__law_ticks h) (fun cdv A outer s H vs Q E hr h => ⟨t__law_ticks K, der__law_ticks T hr, rd__law_ticks h⟩)
theorem der__law_groups (T : Tx K mg) {cdv : Value} {A : Around} {outer : List Env} {s : Shared} {H : Hp} {E : XK} (hr : Room 0 (A.deeper (envOfC "_law_groups" (defScope s__law_groups) s.heap.objs.size T.f__law_groups cdv))) :
    PSs (cxOf CX0 P w K mg base n__law_groups "_law_groups" (defScope s__law_groups) T.f__law_groups cdv A outer s H E).nox (defBody s__law_groups) (t__law_groups K) :=
  have nd := sc__law_groups.nd
  (pss_cons (ps_set (i := 1) nd rfl (Or.inl rfl) (pe_lst pa_nil))
  (pss_cons (ps_for PassesOwn.never rfl (pi_enum rfl T.m_enumerate (pa_cons (pv 0) pa_nil)) (pg_tup rfl (pgs_cons (pg_name (i := 2) nd rfl (by first | exact Or.inl rfl | exact Or.inr rfl)) (pgs_cons (pg_name (i := 3) nd rfl (by first | exact Or.inl rfl | exact Or.inr rfl)) pgs_nil)))
  (pss_one (ps_if (pt_val (pv 3)) (pss_cons (ps_set (i := 1) nd rfl (Or.inl rfl) (pe_op op_cat (pe_lst (pa_cons (pe_lst (pa_cons (pe_op op_add (pv 2) pe_int) pa_nil)) pa_nil)) (pv 1)))
  (pss_cons (ps_set (i := 4) nd rfl (Or.inr rfl) pe_int)
  (pss_one (ps_while PassesOwn.never (pt_cmpR op_gt (pe_callB cr_len (by rfl) T.m_len (by decide +kernel) (pa_cons (pe_lc (own := [("_law_group", 5)]) rfl nd (pi_list (pv 1)) (blkOk_by (own := [("_law_group", 5)]) (N := n__law_groups) (sc := defScope s__law_groups) (by decide +kernel)) (fun _ _ _ _ _ => (pg_name (i := 5) nd rfl (by first | exact Or.inl rfl | exact Or.inr rfl))) (fun _ _ _ _ _ => (pts_one (pt_cmpR op_eq (pe_callB cr_len (by rfl) T.m_len (by decide +kernel) (pa_cons (pv 5) pa_nil)) (pv 4) (nomark _)))) (fun _ _ _ _ _ => (pv 5))) pa_nil)) pe_int (nomark _))
  (pss_cons (ps_setLc (i := 6) (own := [("_law_group", 5)]) rfl nd rfl rfl (sw_true rfl rfl rfl (by decide +kernel)) (pi_list (pv 1)) (blkOk_by (own := [("_law_group", 5)]) (N := n__law_groups) (sc := defScope s__law_groups) (by decide +kernel)) (fun _ _ _ _ _ => (pg_name (i := 5) nd rfl (by first | exact Or.inl rfl | exact Or.inr rfl))) (fun _ _ _ _ _ => (pts_one (pt_cmpR op_eq (pe_callB cr_len (by rfl) T.m_len (by decide +kernel) (pa_cons (pv 5) pa_nil)) (pv 4) (nomark _)))) (fun _ _ _ _ _ => (pv 5)))
  (pss_cons (ps_set (i := 7) nd rfl (Or.inl rfl) (pe_op op_cat (pe_ix ix_list (pv 6) pe_int (fun _ _ => rfl)) (pe_ix ix_list (pv 6) pe_int (fun _ _ => rfl))))
  (pss_cons (ps_set (i := 8) nd rfl (Or.inl rfl) (pe_op op_cat (pe_op op_cat (pe_lc (own := [("_law_group", 5)]) rfl nd (pi_list (pv 1)) (blkOk_by (own := [("_law_group", 5)]) (N := n__law_groups) (sc := defScope s__law_groups) (by decide +kernel)) (fun _ _ _ _ _ => (pg_name (i := 5) nd rfl (by first | exact Or.inl rfl | exact Or.inr rfl))) (fun _ _ _ _ _ => (pts_one (pt_cmpR op_lt (pe_callB cr_len (by rfl) T.m_len (by decide +kernel) (pa_cons (pv 5) pa_nil)) (pv 4) (nomark _)))) (fun _ _ _ _ _ => (pv 5))) (pe_slice sl_list (pv 6) po_none (po_some pe_int))) (pe_lst (pa_cons (pv 7) pa_nil))))
  (pss_cons (ps_set (i := 1) nd rfl (Or.inl rfl) (pe_op op_cat (pv 8) (pe_lc (own := [("_law_group", 5)]) rfl nd (pi_list (pv 1)) (blkOk_by (own := [("_law_group", 5)]) (N := n__law_groups) (sc := defScope s__law_groups) (by decide +kernel)) (fun _ _ _ _ _ => (pg_name (i := 5) nd rfl (by first | exact Or.inl rfl | exact Or.inr rfl))) (fun _ _ _ _ _ => (pts_one (pt_cmpR op_gt (pe_callB cr_len (by rfl) T.m_len (by decide +kernel) (pa_cons (pv 5) pa_nil)) (pv 4) (nomark _)))) (fun _ _ _ _ _ => (pv 5)))))
  (pss_one (ps_set (i := 4) nd rfl (Or.inr rfl) (pe_op op_mul pe_int (pv 4)))))))))))) pss_nil)))
  (pss_one (ps_ret (pv 1)))))
theorem ok__law_groups (T : Tx K mg) : FnOk P w K mg base CX0 1 T.f__law_groups T.d__law_groups ["_law_marked"] (sp__law_groups K) :=
  T.F__law_groups.ok sc__law_groups (fun vs H Q E h => len__law_groups h) (fun cdv A outer s H vs Q E hr h => ⟨t__law_groups K, der__law_groups T hr, rd__law_groups h⟩)
theorem der__law_told_right (T : Tx K mg) {cdv : Value} {A : Around} {outer : List Env} {s : Shared} {H : Hp} {E : XK} (hr : Room 1 (A.deeper (envOfC "_law_told_right" (defScope s__law_told_right) s.heap.objs.size T.f__law_told_right cdv))) :
    PSs (cxOf CX0 P w K mg base n__law_told_right "_law_told_right" (defScope s__law_told_right) T.f__law_told_right cdv A outer s H E).nox (defBody s__law_told_right) (t__law_told_right K T.c_Runs) :=
  have nd := sc__law_told_right.nd
  (pss_cons (ps_setLc (i := 2) (own := [("_law_group", 3)]) rfl nd rfl rfl (sw_true rfl rfl rfl (by decide +kernel)) (pi_list (pe_call (ok__law_groups T) (hr.mono (by decide)) (by rfl) T.g__law_groups T.F__law_groups.kp T.b__law_groups .nil pass0 (pa_cons (pv 1) pa_nil))) (blkOk_by (own := [("_law_group", 3)]) (N := n__law_told_right) (sc := defScope s__law_told_right) (by decide +kernel)) (fun _ _ _ _ _ => (pg_name (i := 3) nd rfl (by first | exact Or.inl rfl | exact Or.inr rfl))) (fun _ _ _ _ _ => pts_nil) (fun _ _ _ _ _ => (pe_tup (pa_cons (pe_callB cr_len (by rfl) T.m_len (by decide +kernel) (pa_cons (pv 3) pa_nil)) (pa_cons (pe_callB (cr_max rfl) (by rfl) T.m_max (by decide +kernel) (pa_cons (pv 3) pa_nil)) pa_nil)))))
  (pss_cons (ps_for PassesOwn.never rfl (pi_range1 rfl T.m_range (pa_cons pe_int pa_nil)) (pg_name (i := 4) nd rfl (by first | exact Or.inl rfl | exact Or.inr rfl))
  (pss_cons (ps_set (i := 5) nd rfl (Or.inl rfl) (pe_meth0 (pv 0) T.cl_Runs T.M_Runs_groups (ok_Runs_groups T) (hr.mono (by decide)) T.b_Runs_groups .nil pass0))
  (pss_cons (ps_if (PW.pt (pw_or (pt_not (pt_val (pe_callB call_isi (by rfl) T.m_isinstance (by decide +kernel) (pa_cons (pv 5) (pa_cons (pe_bltn (by rfl) T.m_list (by decide +kernel) rfl) pa_nil))))) (pw_or (pt_cmpR (op_neT hr.units) (pv 5) (pv 2) (nomark _)) (pw_or1 (pt_cmpR op_ne (pe_meth0 (pv 0) T.cl_Runs T.M_Runs_now (ok_Runs_now T) (hr.mono (by decide)) T.b_Runs_now .nil pass0) (pe_callB cr_len (by rfl) T.m_len (by decide +kernel) (pa_cons (pv 1) pa_nil)) (nomark _)))))) (pss_one (ps_ret pe_bl)) pss_nil)
  (pss_cons (ps_if (pt_cmpR (op_neT hr.units) (pe_lc (own := [("_law_one", 6)]) rfl nd (pi_list (pv 5)) (blkOk_by (own := [("_law_one", 6)]) (N := n__law_told_right) (sc := defScope s__law_told_right) (by decide +kernel)) (fun _ _ _ _ _ => (pg_name (i := 6) nd rfl (by first | exact Or.inl rfl | exact Or.inr rfl))) (fun _ _ _ _ _ => (pts_one (pt_not (pt_val (pe_callB call_isi (by rfl) T.m_isinstance (by decide +kernel) (pa_cons (pv 6) (pa_cons (pe_bltn (by rfl) T.m_tuple (by decide +kernel) rfl) pa_nil))))))) (fun _ _ _ _ _ => (pv 6))) (pe_lst pa_nil) (nomark _)) (pss_one (ps_ret pe_bl)) pss_nil)
  (pss_one (ps_expr (pe_bm PySem.F.plainAttrs_list PySem.F.slot_list_append PySem.F.type_list_append mt_append (pv 5) (pa_cons (pe_tup (pa_cons pe_int (pa_cons pe_int pa_nil))) pa_nil))))))))
  (pss_cons (ps_set (i := 7) nd rfl (Or.inr rfl) (pe_lc (own := [("_law_size", 8), ("_law_last", 9)]) rfl nd (pi_list (pv 2)) (blkOk_by (own := [("_law_size", 8), ("_law_last", 9)]) (N := n__law_told_right) (sc := defScope s__law_told_right) (by decide +kernel)) (fun _ _ _ _ _ => (pg_tup rfl (pgs_cons (pg_name (i := 8) nd rfl (by first | exact Or.inl rfl | exact Or.inr rfl)) (pgs_cons (pg_name (i := 9) nd rfl (by first | exact Or.inl rfl | exact Or.inr rfl)) pgs_nil)))) (fun _ _ _ _ _ => pts_nil) (fun _ _ _ _ _ => (pv 8))))
  (pss_one (ps_ret (pe_and (pe_cmpR (op_eqT hr.units) (pv 7) (pe_callB cr_sortedI (by rfl) T.m_sorted (by decide +kernel) (pa_cons (pv 7) pa_nil)) (nomark _)) (pe_one (pe_cmpR (op_eqT hr.units) (pe_lc (own := [("_law_size", 8)]) rfl nd (pi_list (pv 7)) (blkOk_by (own := [("_law_size", 8)]) (N := n__law_told_right) (sc := defScope s__law_told_right) (by decide +kernel)) (fun _ _ _ _ _ => (pg_name (i := 8) nd rfl (by first | exact Or.inl rfl | exact Or.inr rfl))) (fun _ _ _ _ _ => (pts_one (pt_cmpR op_gt (pe_bm PySem.F.plainAttrs_list PySem.F.slot_list_count PySem.F.type_list_count mt_countF (pv 7) (pa_cons (pv 8) pa_nil)) pe_int (nomark _)))) (fun _ _ _ _ _ => (pv 8))) (pe_lst pa_nil) (nomark _)))))))))
theorem ok__law_told_right (T : Tx K mg) : FnOk P w K mg base CX0 2 T.f__law_told_right T.d__law_told_right ["_law_runs", "_law_marked"] (sp__law_told_right K T.c_Runs) :=
  T.F__law_told_right.ok sc__law_told_right (fun vs H Q E h => len__law_told_right h) (fun cdv A outer s H vs Q E hr h => ⟨t__law_told_right K T.c_Runs, der__law_told_right T hr, rd__law_told_right T.rc_Runs h⟩)
theorem gv__law_refusal {X : Cx} {K : Fg} {mg : Str → Option Value} (hK : X.K = K) (hM : X.mg = mg) (T : Tx K mg) {qq : Str} {kk : Nat} {cdg : Value} (hk : 0 ≤ kk + 1) : LM.Gives X n__law_refusal "_law_refusal" (defScope s__law_refusal) T.f__law_refusal cdg (defBody s__law_refusal) "_law_work" qq (kk + 1) (TTrg K (cErr K "LeftError") (t__law_refusal K)) := by
  subst hK hM
  exact
    gives_rg rfl fun f d s H tl hr act =>
    have nd := sc__law_refusal.nd
    (pss_cons (ps_set (i := 1) nd rfl (Or.inl rfl) pe_non)
    (pss_cons (BX.ps_try_asK (i := 2) (tb := fun W => tDrop (fun σZ HZ Q => σZ[0]? = some (some (V.ref f)) ∧ HZ d = some (LamX.CodeO d qq) ∧ tl (WE W σZ) HZ Q)) (ts := fun _ _ _ => (tAsg (tVar 2) (gName 1))) (Wout := fun _ _ _ _ => False) rfl rfl nd rfl rfl (by exact ⟨by rfl, by decide, Or.inl T.g_LeftError⟩) takes0 (fun W pn xe tk _ => (pss_one (ps_expr (act W pn xe _ _ tk)))) (fun a oe cls d pn hz hf => (pss_one (ps_set (i := 1) nd rfl (Or.inl rfl) (pv 2)))) rfl)
    (pss_cons (ps_if (pt_cmpR op_isN (pv 1) pe_non (nomark _)) (pss_one (ps_ret (pe_lst (pa_cons pe_str pa_nil)))) pss_nil)
  (pss_cons (ps_if (pt_val (pe_callB BE.call_isF (by rfl) T.m_isinstance (by decide +kernel) (pa_cons (pv 1) (pa_cons (pe_glob (by rfl) T.g_NoTick rfl) pa_nil)))) (pss_one (ps_ret (pe_lst (pa_cons pe_str (pa_cons (pe_xg T.xf_NoTick T.xo_NoTick_at (pv 1)) pa_nil))))) pss_nil)
  (pss_one (ps_ret (pe_lst (pa_cons (pe_ifExp (pt_val (pe_callB BE.call_isF (by rfl) T.m_isinstance (by decide +kernel) (pa_cons (pv 1) (pa_cons (pe_glob (by rfl) T.g_NoNumber rfl) pa_nil)))) pe_str (pe_ifExp (pt_val (pe_callB BE.call_isF (by rfl) T.m_isinstance (by decide +kernel) (pa_cons (pv 1) (pa_cons (pe_glob (by rfl) T.g_NoTruth rfl) pa_nil)))) pe_str pe_str)) pa_nil))))))))
theorem der__law_whole (T : Tx K mg) {cdv : Value} {A : Around} {outer : List Env} {s : Shared} {H : Hp} {E : XK} (hr : Room 0 (A.deeper (envOfC "_law_whole" (defScope s__law_whole) s.heap.objs.size T.f__law_whole cdv))) :
    PSs (cxOf CX0 P w K mg base n__law_whole "_law_whole" (defScope s__law_whole) T.f__law_whole cdv A outer s H E).nox (defBody s__law_whole) (t__law_whole K) :=
  have nd := sc__law_whole.nd
  (pss_one (ps_ret (pe_and (pe_callB call_isi (by rfl) T.m_isinstance (by decide +kernel) (pa_cons (pv 0) (pa_cons (pe_bltn (by rfl) T.m_int (by decide +kernel) rfl) pa_nil))) (pe_one (pe_not (pe_callB call_isi (by rfl) T.m_isinstance (by decide +kernel) (pa_cons (pv 0) (pa_cons (pe_bltn (by rfl) T.m_bool (by decide +kernel) rfl) pa_nil))))))))
theorem ok__law_whole (T : Tx K mg) : FnOk P w K mg base CX0 1 T.f__law_whole T.d__law_whole ["_law_thing"] (sp__law_whole K) :=
  T.F__law_whole.ok sc__law_whole (fun vs H Q E h => len__law_whole h) (fun cdv A outer s H vs Q E hr h => ⟨t__law_whole K, der__law_whole T hr, rd__law_whole h⟩)
theorem der__law_wrong_at (T : Tx K mg) {cdv : Value} {A : Around} {outer : List Env} {s : Shared} {H : Hp} {E : XK} (hr : Room 1 (A.deeper (envOfC "_law_wrong_at" (defScope s__law_wrong_at) s.heap.objs.size T.f__law_wrong_at cdv))) :
    PSs (cxOf CX0 P w K mg base n__law_wrong_at "_law_wrong_at" (defScope s__law_wrong_at) T.f__law_wrong_at cdv A outer s H E).nox (defBody s__law_wrong_at) (t__law_wrong_at K) :=
  have nd := sc__law_wrong_at.nd
  (pss_cons (ps_set (i := 2) nd rfl (Or.inl rfl) pe_int)
  (pss_cons (ps_for PassesOwn.never rfl (pi_enum rfl T.m_enumerate (pa_cons (pv 1) pa_nil)) (pg_tup rfl (pgs_cons (pg_name (i := 3) nd rfl (by first | exact Or.inl rfl | exact Or.inr rfl)) (pgs_cons (pg_name (i := 4) nd rfl (by first | exact Or.inl rfl | exact Or.inr rfl)) pgs_nil)))
  (pss_cons (ps_if (PW.pt (pw_or (pt_not (pt_val (pe_call (ok__law_whole T) (hr.mono (by decide)) (by rfl) T.g__law_whole T.F__law_whole.kp T.b__law_whole .nil pass0 (pa_cons (pv 4) pa_nil)))) (pw_or1 (pt_not (pt_chain op_lt op_le (pv 2) (pv 4) (pv 0)))))) (pss_one (ps_ret (pv 3))) pss_nil)
  (pss_one (ps_set (i := 2) nd rfl (Or.inl rfl) (pv 4)))))
  (pss_one (ps_ret pe_non))))
theorem ok__law_wrong_at (T : Tx K mg) : FnOk P w K mg base CX0 2 T.f__law_wrong_at T.d__law_wrong_at ["_law_now", "_law_ticks_here"] (sp__law_wrong_at K) :=
  T.F__law_wrong_at.ok sc__law_wrong_at (fun vs H Q E h => len__law_wrong_at h) (fun cdv A outer s H vs Q E hr h => ⟨t__law_wrong_at K, der__law_wrong_at T hr, rd__law_wrong_at h⟩)
theorem der__law_given_right (T : Tx K mg) (TB : ∀ x, x ∈ (["_law_given_right", "law"] : List Str) → LamX.TabB base mg (tabC K x) (tabP K x)) {A : Around} {outer : List Env} {s : Shared} {H : Hp} {E : XK} (hr : Room 5 (A.deeper (envOfC "_law_given_right" (defScope s__law_given_right) s.heap.objs.size T.f__law_given_right (.ref (tabC K "_law_given_right"))))) :
    PSs (cxOf CX0 P w K mg base n__law_given_right "_law_given_right" (defScope s__law_given_right) T.f__law_given_right (.ref (tabC K "_law_given_right")) A outer s H E).nox (defBody s__law_given_right) (t__law_given_right K T.c_Runs) :=
  have nd := sc__law_given_right.nd
  (pss_cons (ps_asg (pe_tup (pa_cons (pe_callB cr_len (by rfl) T.m_len (by decide +kernel) (pa_cons (pv 1) pa_nil)) (pa_cons (pe_lc (own := [("_law_at", 4), ("_law_one", 5)]) rfl nd (pi_enum rfl T.m_enumerate (pa_cons (pv 1) pa_nil)) (blkOk_by (own := [("_law_at", 4), ("_law_one", 5)]) (N := n__law_given_right) (sc := defScope s__law_given_right) (by decide +kernel)) (fun _ _ _ _ _ => (pg_tup rfl (pgs_cons (pg_name (i := 4) nd rfl (by first | exact Or.inl rfl | exact Or.inr rfl)) (pgs_cons (pg_name (i := 5) nd rfl (by first | exact Or.inl rfl | exact Or.inr rfl)) pgs_nil)))) (fun _ _ _ _ _ => (pts_one (pt_val (pv 5)))) (fun _ _ _ _ _ => (pe_op op_add (pv 4) pe_int))) pa_nil))) (pg_tup rfl (pgs_cons (pg_name (i := 2) nd rfl (by first | exact Or.inl rfl | exact Or.inr rfl)) (pgs_cons (pg_name (i := 3) nd rfl (by first | exact Or.inl rfl | exact Or.inr rfl)) pgs_nil))))
  (pss_cons (ps_if (pt_not (pt_val (pe_call (ok__law_told_right T) (hr.mono (by decide)) (by rfl) T.g__law_told_right T.F__law_told_right.kp T.b__law_told_right .nil pass0 (pa_cons (pe_call (ok_runs_of T) (hr.mono (by decide)) (by rfl) T.g_runs_of T.F_runs_of.kp T.b_runs_of .nil passL (pa_cons (pv 2) (pa_cons (pe_ix ix_list (pe_lst (pa_cons (pv 3) (pa_cons (pe_callTy cr_tupleO (by rfl) T.m_tuple (by decide +kernel) (pa_cons (pv 3) pa_nil)) pa_nil))) (pe_call (ok__law_draw T) (hr.mono (by decide)) (by rfl) T.g__law_draw T.F__law_draw.kp T.b__law_draw .nil pass0 (pa_cons (pv 0) (pa_cons pe_int pa_nil))) (fun _ _ => rfl)) pa_nil))) (pa_cons (pv 1) pa_nil))))) (pss_one (ps_ret pe_bl)) pss_nil)
  (pss_cons (ps_set (i := 4) nd rfl (Or.inl rfl) (pe_call (ok__law_draw T) (hr.mono (by decide)) (by rfl) T.g__law_draw T.F__law_draw.kp T.b__law_draw .nil pass0 (pa_cons (pv 0) (pa_cons (pe_op op_add (pe_callB cr_len (by rfl) T.m_len (by decide +kernel) (pa_cons (pv 3) pa_nil)) pe_int) pa_nil))))
  (pss_cons (ps_set (i := 6) nd rfl (Or.inr rfl) (pe_ix ix_list (pe_lst (pa_cons pe_int (pa_cons (pe_un un_neg pe_int) (pa_cons (pv 2) (pa_cons (pe_op op_add (pv 2) pe_int) (pa_cons pe_bl (pa_cons pe_non (pa_cons pe_str (pa_cons (pv 4) (pa_cons (pe_op op_pow pe_int pe_int) (pa_cons (pe_tup (pa_cons pe_int pa_nil)) (pa_cons (pe_lst (pa_cons pe_int pa_nil)) (pa_cons pe_dnewK pa_nil))))))))))))) (pe_call (ok__law_draw T) (hr.mono (by decide)) (by rfl) T.g__law_draw T.F__law_draw.kp T.b__law_draw .nil pass0 (pa_cons (pv 0) (pa_cons pe_int pa_nil))) (fun _ _ => rfl)))
  (pss_cons (ps_set (i := 7) nd rfl (Or.inr rfl) (pe_op op_cat (pe_op op_cat (pe_slice sl_list (pv 3) po_none (po_some (pv 4))) (pe_lst (pa_cons (pv 6) pa_nil))) (pe_slice sl_list (pv 3) (po_some (pe_op op_add (pv 4) (pe_call (ok__law_draw T) (hr.mono (by decide)) (by rfl) T.g__law_draw T.F__law_draw.kp T.b__law_draw .nil pass0 (pa_cons (pv 0) (pa_cons pe_int pa_nil))))) po_none)))
  (pss_cons (ps_set (i := 8) nd rfl (Or.inl rfl) (pe_call (ok__law_wrong_at T) (hr.mono (by decide)) (by rfl) T.g__law_wrong_at T.F__law_wrong_at.kp T.b__law_wrong_at .nil pass0 (pa_cons (pv 2) (pa_cons (pv 7) pa_nil))))
  (pss_cons (ps_if (pt_cmpR (op_neT hr.units) (pe_lmF (k := 3) (by rfl) T.g__law_refusal T.F__law_refusal T.b__law_refusal sc__law_refusal rfl (by first | exact Or.inl rfl | exact Or.inr (Or.inl rfl)) (fun cdg => by refine gv__law_refusal (K := K) (mg := mg) ?_ ?_ T (Nat.le_add_left _ _) <;> rfl) (TB "_law_given_right" (by decide)) rfl (hr.mono (by decide)) (LamX.lamS_by (sc := defScope s__law_given_right) (by decide +kernel)) rfl (fun _ _ _ _ _ => rfl) (fun A outer s H E f d hr => (pe_call (ok_runs_of T) (hr.mono (by decide)) (by rfl) T.g_runs_of T.F_runs_of.kp T.b_runs_of .nil lam_passE (pa_cons (pv 2) (pa_cons (pv 7) pa_nil))))) (pe_ifExp (pt_cmpR op_isN (pv 8) pe_non (nomark _)) (pe_lst (pa_cons pe_str pa_nil)) (pe_lst (pa_cons pe_str (pa_cons (pv 8) pa_nil)))) (nomark _)) (pss_one (ps_ret pe_bl)) pss_nil)
  (pss_cons (ps_set (i := 9) nd rfl (Or.inr rfl) (pe_ix ix_list (pe_lst (pa_cons (pe_un un_neg pe_int) (pa_cons pe_bl (pa_cons pe_non (pa_cons pe_str (pa_cons (pe_lst (pa_cons pe_int pa_nil)) pa_nil)))))) (pe_call (ok__law_draw T) (hr.mono (by decide)) (by rfl) T.g__law_draw T.F__law_draw.kp T.b__law_draw .nil pass0 (pa_cons (pv 0) (pa_cons pe_int pa_nil))) (fun _ _ => rfl)))
  (pss_cons (ps_if (pt_cmpR (op_neT hr.units) (pe_lmF (k := 3) (by rfl) T.g__law_refusal T.F__law_refusal T.b__law_refusal sc__law_refusal rfl (by first | exact Or.inl rfl | exact Or.inr (Or.inl rfl)) (fun cdg => by refine gv__law_refusal (K := K) (mg := mg) ?_ ?_ T (Nat.le_add_left _ _) <;> rfl) (TB "_law_given_right" (by decide)) rfl (hr.mono (by decide)) (LamX.lamS_by (sc := defScope s__law_given_right) (by decide +kernel)) rfl (fun _ _ _ _ _ => rfl) (fun A outer s H E f d hr => (pe_call (ok_runs_of T) (hr.mono (by decide)) (by rfl) T.g_runs_of T.F_runs_of.kp T.b_runs_of .nil lam_passE (pa_cons (pv 9) (pa_cons (pe_lst (pa_cons (pv 6) pa_nil)) pa_nil))))) (pe_lst (pa_cons pe_str pa_nil)) (nomark _)) (pss_one (ps_ret pe_bl)) pss_nil)
  (pss_one (ps_ret (pe_cmpR (op_eqT hr.units) (pe_lmF (k := 3) (by rfl) T.g__law_refusal T.F__law_refusal T.b__law_refusal sc__law_refusal rfl (by first | exact Or.inl rfl | exact Or.inr (Or.inl rfl)) (fun cdg => by refine gv__law_refusal (K := K) (mg := mg) ?_ ?_ T (Nat.le_add_left _ _) <;> rfl) (TB "_law_given_right" (by decide)) rfl (hr.mono (by decide)) (LamX.lamS_by (sc := defScope s__law_given_right) (by decide +kernel)) rfl (fun _ _ _ _ _ => rfl) (fun A outer s H E f d hr => (pe_call (ok_runs_of T) (hr.mono (by decide)) (by rfl) T.g_runs_of T.F_runs_of.kp T.b_runs_of .nil lam_passE (pa_cons (pv 2) (pa_cons (pe_ix ix_list (pe_lst (pa_cons pe_non (pa_cons pe_str (pa_cons pe_dnewK (pa_cons pe_int pa_nil))))) (pe_call (ok__law_draw T) (hr.mono (by decide)) (by rfl) T.g__law_draw T.F__law_draw.kp T.b__law_draw .nil pass0 (pa_cons (pv 0) (pa_cons pe_int pa_nil))) (fun _ _ => rfl)) pa_nil))))) (pe_lst (pa_cons pe_str (pa_cons pe_int pa_nil))) (nomark _)))))))))))))
theorem ok__law_given_right (T : Tx K mg) (TB : ∀ x, x ∈ (["_law_given_right", "law"] : List Str) → LamX.TabB base mg (tabC K x) (tabP K x)) : FnOk P w K mg base CX0 6 T.f__law_given_right T.d__law_given_right ["_law_state", "_law_marked"] (sp__law_given_right K T.c_Runs) :=
  T.F__law_given_right.okC sc__law_given_right (fun vs H Q E h => len__law_given_right h) (fun A outer s H vs Q E hr h => ⟨t__law_given_right K T.c_Runs, der__law_given_right T TB hr, rd__law_given_right T.rc_Runs T.rf_NoTick T.rf_NoNumber h⟩)
theorem der_law (T : Tx K mg) (TB : ∀ x, x ∈ (["_law_given_right", "law"] : List Str) → LamX.TabB base mg (tabC K x) (tabP K x)) {A : Around} {outer : List Env} {s : Shared} {H : Hp} {E : XK} (hgd : A.guards = some []) (hr : Room 6 (A.deeper (envOfC "law" (defScope s_law) s.heap.objs.size T.f_law (.ref (tabC K "law"))))) :
    PSs (cxOf CX0 P w K mg base n_law "law" (defScope s_law) T.f_law (.ref (tabC K "law")) A outer s H E).nox (defBody s_law) (t_law K T.c_Runs) :=
  have nd := sc_law.nd
  (pss_cons (ps_set (i := 1) nd rfl (Or.inl rfl) (pe_call (ok__law_begun T) (hr.mono (by decide)) (by rfl) T.g__law_begun T.F__law_begun.kp T.b__law_begun .nil pass0 (pa_cons (pv 0) pa_nil)))
  (pss_cons (ps_set (i := 2) nd rfl (Or.inl rfl) (pe_call (ok__law_draw T) (hr.mono (by decide)) (by rfl) T.g__law_draw T.F__law_draw.kp T.b__law_draw .nil pass0 (pa_cons (pv 1) (pa_cons pe_int pa_nil))))
  (pss_cons (ps_if (pt_cmpR op_eq (pe_call (ok__law_draw T) (hr.mono (by decide)) (by rfl) T.g__law_draw T.F__law_draw.kp T.b__law_draw .nil pass0 (pa_cons (pv 1) (pa_cons pe_int pa_nil))) pe_int (nomark _)) (pss_one (ps_set (i := 2) nd rfl (Or.inl rfl) (pe_op op_add pe_int (pe_call (ok__law_draw T) (hr.mono (by decide)) (by rfl) T.g__law_draw T.F__law_draw.kp T.b__law_draw .nil pass0 (pa_cons (pv 1) (pa_cons pe_int pa_nil)))))) pss_nil)
  (pss_cons (ps_set (i := 3) nd rfl (Or.inl rfl) (pe_call (ok__law_ticks T) (hr.mono (by decide)) (by rfl) T.g__law_ticks T.F__law_ticks.kp T.b__law_ticks .nil pass0 (pa_cons (pv 1) (pa_cons (pv 2) pa_nil))))
  (pss_cons (ps_asg (pe_tup (pa_cons (pe_make0 T.K_Runs (ok_Runs___init__ T) (hr.mono (by decide)) (by rfl) T.g_Runs T.b_Runs___init__ .nil pass0) (pa_cons (pe_call (ok__law_draw T) (hr.mono (by decide)) (by rfl) T.g__law_draw T.F__law_draw.kp T.b__law_draw .nil pass0 (pa_cons (pv 1) (pa_cons (pe_op op_add (pv 2) pe_int) pa_nil))) pa_nil))) (pg_tup rfl (pgs_cons (pg_name (i := 4) nd rfl (by first | exact Or.inl rfl | exact Or.inr rfl)) (pgs_cons (pg_name (i := 5) nd rfl (by first | exact Or.inl rfl | exact Or.inr rfl)) pgs_nil))))
  (pss_cons (ps_par (i := 6) (j := 7) rfl nd rfl rfl (by decide) rfl rfl (pa_cons (pe_meth0 (pv 4) T.cl_Runs T.M_Runs_twin (ok_Runs_twin T) (hr.mono (by decide)) T.b_Runs_twin .nil pass0) (pa_cons (pe_lst pa_nil) pa_nil)) (by rfl))
  (pss_cons (ps_for PassesOwn.never rfl (pi_enum rfl T.m_enumerate (pa_cons (pv 3) pa_nil)) (pg_tup rfl (pgs_cons (pg_name (i := 8) nd rfl (by first | exact Or.inl rfl | exact Or.inr rfl)) (pgs_cons (pg_name (i := 9) nd rfl (by first | exact Or.inl rfl | exact Or.inr rfl)) pgs_nil)))
  (pss_cons (ps_if (pt_cmpR op_eq (pv 8) (pv 5) (nomark _)) (pss_one (ps_par (i := 6) (j := 7) rfl nd rfl rfl (by decide) rfl rfl (pa_cons (pe_meth0 (pv 4) T.cl_Runs T.M_Runs_twin (ok_Runs_twin T) (hr.mono (by decide)) T.b_Runs_twin .nil pass0) (pa_cons (pe_slice sl_list (pv 3) po_none (po_some (pv 8))) pa_nil)) (by rfl))) pss_nil)
  (pss_one (ps_if (PW.pt (pw_or (pt_cmpR op_notN (pe_meth (pv 4) T.cl_Runs T.M_Runs_tick (ok_Runs_tick T) (hr.mono (by decide)) T.b_Runs_tick .nil passL (pa_cons (pv 9) pa_nil)) pe_non (nomark _)) (pw_or1 (PW.pt (pw_and (pt_cmpR op_lt (pv 2) pe_int (nomark _)) (pw_and1 (pt_not (pt_val (pe_call (ok__law_told_right T) (hr.mono (by decide)) (by rfl) T.g__law_told_right T.F__law_told_right.kp T.b__law_told_right .nil pass0 (pa_cons (pv 4) (pa_cons (pe_slice sl_list (pv 3) po_none (po_some (pe_op op_add (pv 8) pe_int))) pa_nil))))))))))) (pss_one (ps_ret pe_bl)) pss_nil))))
  (pss_cons (ps_set (i := 10) nd rfl (Or.inr rfl) (pe_ix ix_list (pe_lst (pa_cons pe_int (pa_cons pe_int (pa_cons pe_non (pa_cons pe_str (pa_cons (pe_lst pa_nil) (pa_cons (pe_tup (pa_cons pe_bl pa_nil)) pa_nil))))))) (pe_call (ok__law_draw T) (hr.mono (by decide)) (by rfl) T.g__law_draw T.F__law_draw.kp T.b__law_draw .nil pass0 (pa_cons (pv 1) (pa_cons pe_int pa_nil))) (fun _ _ => rfl)))
  (pss_cons (ps_if (PW.pt (pw_or (pt_cmpR (op_neT hr.units) (pe_lmF (k := 4) (by rfl) T.g__law_refusal T.F__law_refusal T.b__law_refusal sc__law_refusal rfl (by first | exact Or.inl rfl | exact Or.inr (Or.inl rfl)) (fun cdg => by refine gv__law_refusal (K := K) (mg := mg) ?_ ?_ T (Nat.le_add_left _ _) <;> rfl) (TB "law" (by decide)) rfl (hr.mono (by decide)) (LamX.lamS_by (sc := defScope s_law) (by decide +kernel)) rfl (fun _ _ _ _ _ => rfl) (fun A outer s H E f d hr => (pe_meth (pv 4) T.cl_Runs T.M_Runs_tick (ok_Runs_tick T) (hr.mono (by decide)) T.b_Runs_tick .nil lam_passE (pa_cons (pv 10) pa_nil)))) (pe_lst (pa_cons pe_str pa_nil)) (nomark _)) (pw_or1 (pt_not (pt_val (pe_call (ok__law_told_right T) (hr.mono (by decide)) (by rfl) T.g__law_told_right T.F__law_told_right.kp T.b__law_told_right .nil pass0 (pa_cons (pv 4) (pa_cons (pv 3) pa_nil)))))))) (pss_one (ps_ret pe_bl)) pss_nil)
  (pss_cons (ps_if (PW.pt (pw_or (pt_not (pt_val (pe_call (ok__law_told_right T) (hr.mono (by decide)) (by rfl) T.g__law_told_right T.F__law_told_right.kp T.b__law_told_right .nil pass0 (pa_cons (pv 6) (pa_cons (pv 7) pa_nil))))) (pw_or1 (pt_cmpR op_ne (pe_cmpR (op_insEq (ok_Runs___eq__ T) (hr.mono (by decide)) T.M_Runs___eq__ T.b_Runs___eq__ pass0) (pv 4) (pv 6) (nomark _)) (pe_cmpR op_eq (pe_callB cr_len (by rfl) T.m_len (by decide +kernel) (pa_cons (pv 7) pa_nil)) (pe_callB cr_len (by rfl) T.m_len (by decide +kernel) (pa_cons (pv 3) pa_nil)) (nomark _)) (nomark _))))) (pss_one (ps_ret pe_bl)) pss_nil)
  (pss_cons (ps_set (i := 11) nd rfl (Or.inl rfl) (pe_meth0 (pv 4) T.cl_Runs T.M_Runs_twin (ok_Runs_twin T) (hr.mono (by decide)) T.b_Runs_twin .nil pass0))
  (pss_cons (ps_expr (pe_meth (pv 11) T.cl_Runs T.M_Runs_tick (ok_Runs_tick T) (hr.mono (by decide)) T.b_Runs_tick .nil passL (pa_cons pe_bl pa_nil)))
  (pss_cons (ps_if (PW.pt (pw_or (pt_not (pt_cmpR (op_insEq (ok_Runs___eq__ T) (hr.mono (by decide)) T.M_Runs___eq__ T.b_Runs___eq__ pass0) (pv 4) (pe_meth0 (pv 4) T.cl_Runs T.M_Runs_twin (ok_Runs_twin T) (hr.mono (by decide)) T.b_Runs_twin .nil pass0) (nomark _))) (pw_or (pt_cmpR (op_insEq (ok_Runs___eq__ T) (hr.mono (by decide)) T.M_Runs___eq__ T.b_Runs___eq__ pass0) (pv 4) (pv 11) (nomark _)) (pw_or1 (pt_cmpR op_isnot_bl (pe_cmpR (op_insEqA (ok_Runs___eq__ T) (hr.mono (by decide)) T.M_Runs___eq__ T.b_Runs___eq__ pass0) (pv 4) (pe_meth0 (pv 4) T.cl_Runs T.M_Runs_groups (ok_Runs_groups T) (hr.mono (by decide)) T.b_Runs_groups .nil pass0) (nomark _)) pe_bl (nomark _)))))) (pss_one (ps_ret pe_bl)) pss_nil)
  (pss_one (ps_ret (pe_call (ok__law_given_right T TB) (hr.mono (by decide)) (by rfl) T.g__law_given_right T.F__law_given_right.kp T.b__law_given_right .nil pass0 (pa_cons (pv 1) (pa_cons (pv 3) pa_nil))))))))))))))))))
theorem ok_law (T : Tx K mg) (TB : ∀ x, x ∈ (["_law_given_right", "law"] : List Str) → LamX.TabB base mg (tabC K x) (tabP K x)) : FnG P w K mg base 7 T.f_law T.d_law ["_law_script"] (sp_law K) :=
  okGC T.F_law sc_law (fun vs H Q E h => len_law h) (fun A hgd outer s H vs Q E hr h => ⟨t_law K T.c_Runs, der_law T TB hgd hr, rd_law T.rc_Runs T.rf_NoTick T.rf_NoNumber T.rf_NoTruth T.wd__law_given_right_law T.nf_Runs h⟩)

end

theorem all_mk {l : PySem.W.OpenLaw} {w : World} {K : Fg} {h : Heap} {mg : Str → Option Value} {fa c_Runs c_LeftError c_NoNumber c_NoTick c_NoTruth f_NoTick___init__ f_is_tick f_Runs___init__ f_Runs_now f_Runs_groups f_Runs_twin f_Runs___eq__ f_Runs_tick f_runs_of f__law_begun f__law_draw f__law_ticks f__law_groups f__law_told_right f__law_refusal f__law_whole f__law_wrong_at f__law_given_right cc__law_given_right pp__law_given_right f_law cc_law pp_law : Addr} (X : K.In h) (G : h.Ns mainGlobals mg) (hfa : mg "law" = some (.ref fa))
     {od_NoTick___init__ an_NoTick___init__ od_is_tick an_is_tick od_Runs___init__ an_Runs___init__ od_Runs_now an_Runs_now od_Runs_groups an_Runs_groups od_Runs_twin an_Runs_twin od_Runs___eq__ an_Runs___eq__ od_Runs_tick an_Runs_tick od_runs_of an_runs_of od__law_begun an__law_begun od__law_draw an__law_draw od__law_ticks an__law_ticks od__law_groups an__law_groups od__law_told_right an__law_told_right od__law_refusal an__law_refusal od__law_whole an__law_whole od__law_wrong_at an__law_wrong_at od__law_given_right an__law_given_right oe__law_given_right od_law an_law oe_law : Option Addr} {sl_NoTick___init__ sl_is_tick sl_Runs___init__ sl_Runs_now sl_Runs_groups sl_Runs_twin sl_Runs___eq__ sl_Runs_tick sl_runs_of sl__law_begun sl__law_draw sl__law_ticks sl__law_groups sl__law_told_right sl__law_refusal sl__law_whole sl__law_wrong_at sl__law_given_right sv__law_given_right sl_law sv_law : Array (Option Value)} {oc_NoTick___init__ kV_NoTick___init__ dc_NoTick___init__ pm_NoTick___init__ cd_NoTick___init__ ct_NoTick___init__ oc_is_tick kV_is_tick dc_is_tick pm_is_tick cd_is_tick ct_is_tick oc_Runs___init__ kV_Runs___init__ dc_Runs___init__ pm_Runs___init__ cd_Runs___init__ ct_Runs___init__ oc_Runs_now kV_Runs_now dc_Runs_now pm_Runs_now cd_Runs_now ct_Runs_now oc_Runs_groups kV_Runs_groups dc_Runs_groups pm_Runs_groups cd_Runs_groups ct_Runs_groups oc_Runs_twin kV_Runs_twin dc_Runs_twin pm_Runs_twin cd_Runs_twin ct_Runs_twin oc_Runs___eq__ kV_Runs___eq__ dc_Runs___eq__ pm_Runs___eq__ cd_Runs___eq__ ct_Runs___eq__ oc_Runs_tick kV_Runs_tick dc_Runs_tick pm_Runs_tick cd_Runs_tick ct_Runs_tick oc_runs_of kV_runs_of dc_runs_of pm_runs_of cd_runs_of ct_runs_of oc__law_begun kV__law_begun dc__law_begun pm__law_begun cd__law_begun ct__law_begun oc__law_draw kV__law_draw dc__law_draw pm__law_draw cd__law_draw ct__law_draw oc__law_ticks kV__law_ticks dc__law_ticks pm__law_ticks cd__law_ticks ct__law_ticks oc__law_groups kV__law_groups dc__law_groups pm__law_groups cd__law_groups ct__law_groups oc__law_told_right kV__law_told_right dc__law_told_right pm__law_told_right cd__law_told_right ct__law_told_right oc__law_refusal kV__law_refusal dc__law_refusal pm__law_refusal cd__law_refusal ct__law_refusal oc__law_whole kV__law_whole dc__law_whole pm__law_whole cd__law_whole ct__law_whole oc__law_wrong_at kV__law_wrong_at dc__law_wrong_at pm__law_wrong_at cd__law_wrong_at ct__law_wrong_at oc__law_given_right kV__law_given_right dc__law_given_right pm__law_given_right ct__law_given_right oo__law_given_right oc_law kV_law dc_law pm_law ct_law oo_law : Value} {vv__law_given_right vv_law : Array Value}
    (z_isinstance : PySem.W.nsIn K mainGlobals "isinstance" = some none)
    (z_int : PySem.W.nsIn K mainGlobals "int" = some none)
    (z_bool : PySem.W.nsIn K mainGlobals "bool" = some none)
    (z_list : PySem.W.nsIn K mainGlobals "list" = some none)
    (z_len : PySem.W.nsIn K mainGlobals "len" = some none)
    (z_max : PySem.W.nsIn K mainGlobals "max" = some none)
    (z_enumerate : PySem.W.nsIn K mainGlobals "enumerate" = some none)
    (z_tuple : PySem.W.nsIn K mainGlobals "tuple" = some none)
    (z_range : PySem.W.nsIn K mainGlobals "range" = some none)
    (z_abs : PySem.W.nsIn K mainGlobals "abs" = some none)
    (z_sorted : PySem.W.nsIn K mainGlobals "sorted" = some none)
    (l_NoTick___init__ : K.lookup f_NoTick___init__ = some ⟨oc_NoTick___init__, od_NoTick___init__, .func (PySem.W.fnOf "__init__" "NoTick.__init__" (defArgs s_NoTick___init__) (defBody s_NoTick___init__) (defScope s_NoTick___init__) .none kV_NoTick___init__ dc_NoTick___init__ pm_NoTick___init__ an_NoTick___init__ cd_NoTick___init__ ct_NoTick___init__), sl_NoTick___init__⟩)
    (c_NoTick___init__ : PySem.W.codeIn K cd_NoTick___init__ "NoTick.__init__" = true)
    (k_NoTick___init__ : PySem.W.keepIn K (.ref f_NoTick___init__) = true)
    (a_is_tick : PySem.W.nsIn K mainGlobals "is_tick" = some (some (.ref f_is_tick)))
    (l_is_tick : K.lookup f_is_tick = some ⟨oc_is_tick, od_is_tick, .func (PySem.W.fnOf "is_tick" "is_tick" (defArgs s_is_tick) (defBody s_is_tick) (defScope s_is_tick) .none kV_is_tick dc_is_tick pm_is_tick an_is_tick cd_is_tick ct_is_tick), sl_is_tick⟩)
    (c_is_tick : PySem.W.codeIn K cd_is_tick "is_tick" = true)
    (k_is_tick : PySem.W.keepIn K (.ref f_is_tick) = true)
    (l_Runs___init__ : K.lookup f_Runs___init__ = some ⟨oc_Runs___init__, od_Runs___init__, .func (PySem.W.fnOf "__init__" "Runs.__init__" (defArgs s_Runs___init__) (defBody s_Runs___init__) (defScope s_Runs___init__) .none kV_Runs___init__ dc_Runs___init__ pm_Runs___init__ an_Runs___init__ cd_Runs___init__ ct_Runs___init__), sl_Runs___init__⟩)
    (c_Runs___init__ : PySem.W.codeIn K cd_Runs___init__ "Runs.__init__" = true)
    (k_Runs___init__ : PySem.W.keepIn K (.ref f_Runs___init__) = true)
    (l_Runs_now : K.lookup f_Runs_now = some ⟨oc_Runs_now, od_Runs_now, .func (PySem.W.fnOf "now" "Runs.now" (defArgs s_Runs_now) (defBody s_Runs_now) (defScope s_Runs_now) .none kV_Runs_now dc_Runs_now pm_Runs_now an_Runs_now cd_Runs_now ct_Runs_now), sl_Runs_now⟩)
    (c_Runs_now : PySem.W.codeIn K cd_Runs_now "Runs.now" = true)
    (k_Runs_now : PySem.W.keepIn K (.ref f_Runs_now) = true)
    (l_Runs_groups : K.lookup f_Runs_groups = some ⟨oc_Runs_groups, od_Runs_groups, .func (PySem.W.fnOf "groups" "Runs.groups" (defArgs s_Runs_groups) (defBody s_Runs_groups) (defScope s_Runs_groups) .none kV_Runs_groups dc_Runs_groups pm_Runs_groups an_Runs_groups cd_Runs_groups ct_Runs_groups), sl_Runs_groups⟩)
    (c_Runs_groups : PySem.W.codeIn K cd_Runs_groups "Runs.groups" = true)
    (k_Runs_groups : PySem.W.keepIn K (.ref f_Runs_groups) = true)
    (l_Runs_twin : K.lookup f_Runs_twin = some ⟨oc_Runs_twin, od_Runs_twin, .func (PySem.W.fnOf "twin" "Runs.twin" (defArgs s_Runs_twin) (defBody s_Runs_twin) (defScope s_Runs_twin) .none kV_Runs_twin dc_Runs_twin pm_Runs_twin an_Runs_twin cd_Runs_twin ct_Runs_twin), sl_Runs_twin⟩)
    (c_Runs_twin : PySem.W.codeIn K cd_Runs_twin "Runs.twin" = true)
    (k_Runs_twin : PySem.W.keepIn K (.ref f_Runs_twin) = true)
    (l_Runs___eq__ : K.lookup f_Runs___eq__ = some ⟨oc_Runs___eq__, od_Runs___eq__, .func (PySem.W.fnOf "__eq__" "Runs.__eq__" (defArgs s_Runs___eq__) (defBody s_Runs___eq__) (defScope s_Runs___eq__) .none kV_Runs___eq__ dc_Runs___eq__ pm_Runs___eq__ an_Runs___eq__ cd_Runs___eq__ ct_Runs___eq__), sl_Runs___eq__⟩)
    (c_Runs___eq__ : PySem.W.codeIn K cd_Runs___eq__ "Runs.__eq__" = true)
    (k_Runs___eq__ : PySem.W.keepIn K (.ref f_Runs___eq__) = true)
    (l_Runs_tick : K.lookup f_Runs_tick = some ⟨oc_Runs_tick, od_Runs_tick, .func (PySem.W.fnOf "tick" "Runs.tick" (defArgs s_Runs_tick) (defBody s_Runs_tick) (defScope s_Runs_tick) .none kV_Runs_tick dc_Runs_tick pm_Runs_tick an_Runs_tick cd_Runs_tick ct_Runs_tick), sl_Runs_tick⟩)
    (c_Runs_tick : PySem.W.codeIn K cd_Runs_tick "Runs.tick" = true)
    (k_Runs_tick : PySem.W.keepIn K (.ref f_Runs_tick) = true)
    (a_runs_of : PySem.W.nsIn K mainGlobals "runs_of" = some (some (.ref f_runs_of)))
    (l_runs_of : K.lookup f_runs_of = some ⟨oc_runs_of, od_runs_of, .func (PySem.W.fnOf "runs_of" "runs_of" (defArgs s_runs_of) (defBody s_runs_of) (defScope s_runs_of) .none kV_runs_of dc_runs_of pm_runs_of an_runs_of cd_runs_of ct_runs_of), sl_runs_of⟩)
    (c_runs_of : PySem.W.codeIn K cd_runs_of "runs_of" = true)
    (k_runs_of : PySem.W.keepIn K (.ref f_runs_of) = true)
    (a__law_begun : PySem.W.nsIn K mainGlobals "_law_begun" = some (some (.ref f__law_begun)))
    (l__law_begun : K.lookup f__law_begun = some ⟨oc__law_begun, od__law_begun, .func (PySem.W.fnOf "_law_begun" "_law_begun" (defArgs s__law_begun) (defBody s__law_begun) (defScope s__law_begun) .none kV__law_begun dc__law_begun pm__law_begun an__law_begun cd__law_begun ct__law_begun), sl__law_begun⟩)
    (c__law_begun : PySem.W.codeIn K cd__law_begun "_law_begun" = true)
    (k__law_begun : PySem.W.keepIn K (.ref f__law_begun) = true)
    (a__law_draw : PySem.W.nsIn K mainGlobals "_law_draw" = some (some (.ref f__law_draw)))
    (l__law_draw : K.lookup f__law_draw = some ⟨oc__law_draw, od__law_draw, .func (PySem.W.fnOf "_law_draw" "_law_draw" (defArgs s__law_draw) (defBody s__law_draw) (defScope s__law_draw) .none kV__law_draw dc__law_draw pm__law_draw an__law_draw cd__law_draw ct__law_draw), sl__law_draw⟩)
    (c__law_draw : PySem.W.codeIn K cd__law_draw "_law_draw" = true)
    (k__law_draw : PySem.W.keepIn K (.ref f__law_draw) = true)
    (a__law_ticks : PySem.W.nsIn K mainGlobals "_law_ticks" = some (some (.ref f__law_ticks)))
    (l__law_ticks : K.lookup f__law_ticks = some ⟨oc__law_ticks, od__law_ticks, .func (PySem.W.fnOf "_law_ticks" "_law_ticks" (defArgs s__law_ticks) (defBody s__law_ticks) (defScope s__law_ticks) .none kV__law_ticks dc__law_ticks pm__law_ticks an__law_ticks cd__law_ticks ct__law_ticks), sl__law_ticks⟩)
    (c__law_ticks : PySem.W.codeIn K cd__law_ticks "_law_ticks" = true)
    (k__law_ticks : PySem.W.keepIn K (.ref f__law_ticks) = true)
    (a__law_groups : PySem.W.nsIn K mainGlobals "_law_groups" = some (some (.ref f__law_groups)))
    (l__law_groups : K.lookup f__law_groups = some ⟨oc__law_groups, od__law_groups, .func (PySem.W.fnOf "_law_groups" "_law_groups" (defArgs s__law_groups) (defBody s__law_groups) (defScope s__law_groups) .none kV__law_groups dc__law_groups pm__law_groups an__law_groups cd__law_groups ct__law_groups), sl__law_groups⟩)
    (c__law_groups : PySem.W.codeIn K cd__law_groups "_law_groups" = true)
    (k__law_groups : PySem.W.keepIn K (.ref f__law_groups) = true)
    (a__law_told_right : PySem.W.nsIn K mainGlobals "_law_told_right" = some (some (.ref f__law_told_right)))
    (l__law_told_right : K.lookup f__law_told_right = some ⟨oc__law_told_right, od__law_told_right, .func (PySem.W.fnOf "_law_told_right" "_law_told_right" (defArgs s__law_told_right) (defBody s__law_told_right) (defScope s__law_told_right) .none kV__law_told_right dc__law_told_right pm__law_told_right an__law_told_right cd__law_told_right ct__law_told_right), sl__law_told_right⟩)
    (c__law_told_right : PySem.W.codeIn K cd__law_told_right "_law_told_right" = true)
    (k__law_told_right : PySem.W.keepIn K (.ref f__law_told_right) = true)
    (a__law_refusal : PySem.W.nsIn K mainGlobals "_law_refusal" = some (some (.ref f__law_refusal)))
    (l__law_refusal : K.lookup f__law_refusal = some ⟨oc__law_refusal, od__law_refusal, .func (PySem.W.fnOf "_law_refusal" "_law_refusal" (defArgs s__law_refusal) (defBody s__law_refusal) (defScope s__law_refusal) .none kV__law_refusal dc__law_refusal pm__law_refusal an__law_refusal cd__law_refusal ct__law_refusal), sl__law_refusal⟩)
    (c__law_refusal : PySem.W.codeIn K cd__law_refusal "_law_refusal" = true)
    (k__law_refusal : PySem.W.keepIn K (.ref f__law_refusal) = true)
    (a__law_whole : PySem.W.nsIn K mainGlobals "_law_whole" = some (some (.ref f__law_whole)))
    (l__law_whole : K.lookup f__law_whole = some ⟨oc__law_whole, od__law_whole, .func (PySem.W.fnOf "_law_whole" "_law_whole" (defArgs s__law_whole) (defBody s__law_whole) (defScope s__law_whole) .none kV__law_whole dc__law_whole pm__law_whole an__law_whole cd__law_whole ct__law_whole), sl__law_whole⟩)
    (c__law_whole : PySem.W.codeIn K cd__law_whole "_law_whole" = true)
    (k__law_whole : PySem.W.keepIn K (.ref f__law_whole) = true)
    (a__law_wrong_at : PySem.W.nsIn K mainGlobals "_law_wrong_at" = some (some (.ref f__law_wrong_at)))
    (l__law_wrong_at : K.lookup f__law_wrong_at = some ⟨oc__law_wrong_at, od__law_wrong_at, .func (PySem.W.fnOf "_law_wrong_at" "_law_wrong_at" (defArgs s__law_wrong_at) (defBody s__law_wrong_at) (defScope s__law_wrong_at) .none kV__law_wrong_at dc__law_wrong_at pm__law_wrong_at an__law_wrong_at cd__law_wrong_at ct__law_wrong_at), sl__law_wrong_at⟩)
    (c__law_wrong_at : PySem.W.codeIn K cd__law_wrong_at "_law_wrong_at" = true)
    (k__law_wrong_at : PySem.W.keepIn K (.ref f__law_wrong_at) = true)
    (a__law_given_right : PySem.W.nsIn K mainGlobals "_law_given_right" = some (some (.ref f__law_given_right)))
    (l__law_given_right : K.lookup f__law_given_right = some ⟨oc__law_given_right, od__law_given_right, .func (PySem.W.fnOf "_law_given_right" "_law_given_right" (defArgs s__law_given_right) (defBody s__law_given_right) (defScope s__law_given_right) .none kV__law_given_right dc__law_given_right pm__law_given_right an__law_given_right (.ref cc__law_given_right) ct__law_given_right), sl__law_given_right⟩)
    (c__law_given_right : PySem.W.codeIn K (.ref cc__law_given_right) "_law_given_right" = true)
    (k__law_given_right : PySem.W.keepIn K (.ref f__law_given_right) = true)
    (lc__law_given_right : K.lookup cc__law_given_right = some ⟨oo__law_given_right, oe__law_given_right, .fields vv__law_given_right, sv__law_given_right⟩)
    (hv__law_given_right : (vv__law_given_right[11]? : Option Value) = some (.ref pp__law_given_right))
    (tn__law_given_right : K.lookup pp__law_given_right = none)
    (a_law : PySem.W.nsIn K mainGlobals "law" = some (some (.ref f_law)))
    (l_law : K.lookup f_law = some ⟨oc_law, od_law, .func (PySem.W.fnOf "law" "law" (defArgs s_law) (defBody s_law) (defScope s_law) .none kV_law dc_law pm_law an_law (.ref cc_law) ct_law), sl_law⟩)
    (c_law : PySem.W.codeIn K (.ref cc_law) "law" = true)
    (k_law : PySem.W.keepIn K (.ref f_law) = true)
    (lc_law : K.lookup cc_law = some ⟨oo_law, oe_law, .fields vv_law, sv_law⟩)
    (hv_law : (vv_law[11]? : Option Value) = some (.ref pp_law))
    (tn_law : K.lookup pp_law = none)
    (ac_Runs : PySem.W.nsIn K mainGlobals "Runs" = some (some (.ref c_Runs)))
    (pg_Runs : PySem.W.plainGet K c_Runs Str.empty = true)
    (hd_Runs : PySem.W.hasDictIn K c_Runs = true)
    (po_Runs : PySem.W.plainOver K c_Runs = true)
    (sa_Runs : PySem.W.findIn K (.ref c_Runs) "__setattr__" = some (some (.builtin "object.__setattr__")))
    (mk_Runs : PySem.W.makesIn K c_Runs = true)
    (kc_Runs : PySem.W.keepIn K (.ref c_Runs) = true)
    (ia_Runs : PySem.W.findIn K (.ref c_Runs) "__class__" = some (some (.builtin "object.__class__")))
    (ib_Runs : PySem.W.specialIn K (.builtin "object.__class__") "__get__" = some (some (.builtin "getset_descriptor.__get__")))
    (ic_Runs : PySem.W.takesIn K (.builtin "object.__class__") = some true)
    (id_Runs : PySem.W.mroIn K c_Runs (.type "object") = some true)
    (ie_Runs : PySem.W.kitOne K (.ref c_Runs) (.ref c_Runs) = some true)
    (n_ticks_Runs : PySem.W.findIn K (.ref c_Runs) "ticks" = some none)
    (n_held_Runs : PySem.W.findIn K (.ref c_Runs) "held" = some none)
    (t_Runs___init__ : PySem.W.findIn K (.ref c_Runs) "__init__" = some (some (.ref f_Runs___init__)))
    (i_Runs___init__ : PySem.W.isFn K (.ref f_Runs___init__) = true)
    (t_Runs_now : PySem.W.findIn K (.ref c_Runs) "now" = some (some (.ref f_Runs_now)))
    (i_Runs_now : PySem.W.isFn K (.ref f_Runs_now) = true)
    (t_Runs_groups : PySem.W.findIn K (.ref c_Runs) "groups" = some (some (.ref f_Runs_groups)))
    (i_Runs_groups : PySem.W.isFn K (.ref f_Runs_groups) = true)
    (t_Runs_twin : PySem.W.findIn K (.ref c_Runs) "twin" = some (some (.ref f_Runs_twin)))
    (i_Runs_twin : PySem.W.isFn K (.ref f_Runs_twin) = true)
    (t_Runs___eq__ : PySem.W.findIn K (.ref c_Runs) "__eq__" = some (some (.ref f_Runs___eq__)))
    (i_Runs___eq__ : PySem.W.isFn K (.ref f_Runs___eq__) = true)
    (t_Runs_tick : PySem.W.findIn K (.ref c_Runs) "tick" = some (some (.ref f_Runs_tick)))
    (i_Runs_tick : PySem.W.isFn K (.ref f_Runs_tick) = true)
    (nf_Runs_0 : PySem.W.subIn K (.type "list") (.ref c_Runs) = some false)
    (nf_Runs_1 : PySem.W.kitOne K (.type "list") (.ref c_Runs) = some false)
    (ac_LeftError : PySem.W.nsIn K mainGlobals "LeftError" = some (some (.ref c_LeftError)))
    (ac_NoNumber : PySem.W.nsIn K mainGlobals "NoNumber" = some (some (.ref c_NoNumber)))
    (ac_NoTick : PySem.W.nsIn K mainGlobals "NoTick" = some (some (.ref c_NoTick)))
    (ac_NoTruth : PySem.W.nsIn K mainGlobals "NoTruth" = some (some (.ref c_NoTruth)))
    (xk_NoNumber : PySem.W.keepIn K (.ref c_NoNumber) = true)
    (xq_NoNumber : PySem.W.excIn K c_NoNumber [.type "ValueError", .type "Exception", .type "BaseException", .type "object"] "ValueError.__new__" = true)
    (xs_NoNumber : PySem.W.subIn K (.ref c_NoNumber) (.type "BaseException") = some true)
    (xt_NoNumber : PySem.W.typeIn K (.ref c_NoNumber) = some (.type "type"))
    (xi_NoNumber : PySem.W.isClsIn K c_NoNumber = true)
    (xu_NoNumber : PySem.W.subIn K (.ref c_NoNumber) (.ref c_NoNumber) = some true)
    (xg_NoNumber : PySem.W.findIn K (.ref c_NoNumber) "__getattribute__" = some (some (.builtin "BaseException.__getattribute__")))
    (xh_NoNumber : PySem.W.findIn K (.ref c_NoNumber) "__getattr__" = some none)
    (xd_NoNumber : PySem.W.hasDictIn K c_NoNumber = true)
    (xa_NoNumber : PySem.W.findIn K (.ref c_NoNumber) "__class__" = some (some (.builtin "object.__class__")))
    (xn_NoNumber : PySem.W.specialIn K (.builtin "object.__class__") "__get__" = some (some (.builtin "getset_descriptor.__get__")))
    (xw_NoNumber : PySem.W.takesIn K (.builtin "object.__class__") = some true)
    (xm_NoNumber : PySem.W.mroIn K c_NoNumber (.type "object") = some true)
    (xv_NoNumber : PySem.W.subIn K (.ref c_NoNumber) (.type "ValueError") = some true)
    (xk_NoTruth : PySem.W.keepIn K (.ref c_NoTruth) = true)
    (xq_NoTruth : PySem.W.excIn K c_NoTruth [.type "ValueError", .type "Exception", .type "BaseException", .type "object"] "ValueError.__new__" = true)
    (xs_NoTruth : PySem.W.subIn K (.ref c_NoTruth) (.type "BaseException") = some true)
    (xt_NoTruth : PySem.W.typeIn K (.ref c_NoTruth) = some (.type "type"))
    (xi_NoTruth : PySem.W.isClsIn K c_NoTruth = true)
    (xu_NoTruth : PySem.W.subIn K (.ref c_NoTruth) (.ref c_NoTruth) = some true)
    (xg_NoTruth : PySem.W.findIn K (.ref c_NoTruth) "__getattribute__" = some (some (.builtin "BaseException.__getattribute__")))
    (xh_NoTruth : PySem.W.findIn K (.ref c_NoTruth) "__getattr__" = some none)
    (xd_NoTruth : PySem.W.hasDictIn K c_NoTruth = true)
    (xa_NoTruth : PySem.W.findIn K (.ref c_NoTruth) "__class__" = some (some (.builtin "object.__class__")))
    (xn_NoTruth : PySem.W.specialIn K (.builtin "object.__class__") "__get__" = some (some (.builtin "getset_descriptor.__get__")))
    (xw_NoTruth : PySem.W.takesIn K (.builtin "object.__class__") = some true)
    (xm_NoTruth : PySem.W.mroIn K c_NoTruth (.type "object") = some true)
    (xv_NoTruth : PySem.W.subIn K (.ref c_NoTruth) (.type "ValueError") = some true)
    (xk_NoTick : PySem.W.keepIn K (.ref c_NoTick) = true)
    (xs_NoTick : PySem.W.subIn K (.ref c_NoTick) (.type "BaseException") = some true)
    (xt_NoTick : PySem.W.typeIn K (.ref c_NoTick) = some (.type "type"))
    (xg_NoTick : PySem.W.findIn K (.ref c_NoTick) "__getattribute__" = some (some (.builtin "BaseException.__getattribute__")))
    (xh_NoTick : PySem.W.findIn K (.ref c_NoTick) "__getattr__" = some none)
    (xd_NoTick : PySem.W.hasDictIn K c_NoTick = true)
    (xa_NoTick : PySem.W.findIn K (.ref c_NoTick) "__class__" = some (some (.builtin "object.__class__")))
    (xn_NoTick : PySem.W.specialIn K (.builtin "object.__class__") "__get__" = some (some (.builtin "getset_descriptor.__get__")))
    (xw_NoTick : PySem.W.takesIn K (.builtin "object.__class__") = some true)
    (xm_NoTick : PySem.W.mroIn K c_NoTick (.type "object") = some true)
    (xv_NoTick : PySem.W.subIn K (.ref c_NoTick) (.type "ValueError") = some true)
    (yo_NoTick : BE.oexIn K c_NoTick = true)
    (ya_NoTick : PySem.W.findIn K (.ref c_NoTick) "__setattr__" = some (some (.builtin "object.__setattr__")))
    (t_NoTick___init__ : PySem.W.findIn K (.ref c_NoTick) "__init__" = some (some (.ref f_NoTick___init__)))
    (yt_NoTick : PySem.W.typeIn K (.ref f_NoTick___init__) = some (.type "function"))
    (yf_at_NoTick : PySem.W.findIn K (.ref c_NoTick) "at" = some none)
    (xu_NoTick : PySem.W.subIn K (.ref c_NoTick) (.ref c_NoTick) = some true)
    (yx_NoTick : xfB K c_NoTick = true)
    (zs_LeftError : PySem.W.subIn K (.ref c_LeftError) (.type "BaseException") = some true)
    (zd_LeftError : PySem.W.hasDictIn K c_LeftError = true)
    (zt_LeftError : PySem.W.typeIn K (.ref c_LeftError) = some (.type "type"))
    (zl_NoTick : PySem.W.subIn K (.ref c_NoTick) (.ref c_LeftError) = some true)
    (kk_NoTick_NoTick : PySem.W.kitOne K (.ref c_NoTick) (.ref c_NoTick) = some true)
    (kk_NoTick_NoNumber : PySem.W.kitOne K (.ref c_NoTick) (.ref c_NoNumber) = some false)
    (kk_NoTick_NoTruth : PySem.W.kitOne K (.ref c_NoTick) (.ref c_NoTruth) = some false)
    (zl_NoNumber : PySem.W.subIn K (.ref c_NoNumber) (.ref c_LeftError) = some true)
    (kk_NoNumber_NoTick : PySem.W.kitOne K (.ref c_NoNumber) (.ref c_NoTick) = some false)
    (kk_NoNumber_NoNumber : PySem.W.kitOne K (.ref c_NoNumber) (.ref c_NoNumber) = some true)
    (kk_NoNumber_NoTruth : PySem.W.kitOne K (.ref c_NoNumber) (.ref c_NoTruth) = some false)
    (zl_NoTruth : PySem.W.subIn K (.ref c_NoTruth) (.ref c_LeftError) = some true)
    (kk_NoTruth_NoTick : PySem.W.kitOne K (.ref c_NoTruth) (.ref c_NoTick) = some false)
    (kk_NoTruth_NoNumber : PySem.W.kitOne K (.ref c_NoTruth) (.ref c_NoNumber) = some false)
    (kk_NoTruth_NoTruth : PySem.W.kitOne K (.ref c_NoTruth) (.ref c_NoTruth) = some true)
    (wd__law_given_right_law : (pp__law_given_right == pp_law) = false) :
    ∃ fd : FuncData, (∀ (s : Shared) (v : Value), BindsTo s fd ⟨[v], []⟩ [("_law_script", v)]) ∧ (∀ x, x ∈ (["_law_given_right", "law"] : List Str) → ∃ c P, PySem.W.tabIn (K) x = some (c, P) ∧ (K).lookup P = none) ∧ ∀ base : Heap, K.In base → base.Ns mainGlobals mg → (∀ x, x ∈ (["_law_given_right", "law"] : List Str) → LamX.TabB base mg (tabC K x) (tabP K x)) → FnG l.prog w K mg base 7 fa fd ["_law_script"] (sp_law K) := by
  have e := hfa.symm.trans (PySem.W.mg_of X G a_law)
  cases e
  have F_NoTick___init__ := fun_mk (st := s_NoTick___init__) l_NoTick___init__ c_NoTick___init__ k_NoTick___init__
  have F_is_tick := fun_mk (st := s_is_tick) l_is_tick c_is_tick k_is_tick
  have F_Runs___init__ := fun_mk (st := s_Runs___init__) l_Runs___init__ c_Runs___init__ k_Runs___init__
  have F_Runs_now := fun_mk (st := s_Runs_now) l_Runs_now c_Runs_now k_Runs_now
  have F_Runs_groups := fun_mk (st := s_Runs_groups) l_Runs_groups c_Runs_groups k_Runs_groups
  have F_Runs_twin := fun_mk (st := s_Runs_twin) l_Runs_twin c_Runs_twin k_Runs_twin
  have F_Runs___eq__ := fun_mk (st := s_Runs___eq__) l_Runs___eq__ c_Runs___eq__ k_Runs___eq__
  have F_Runs_tick := fun_mk (st := s_Runs_tick) l_Runs_tick c_Runs_tick k_Runs_tick
  have F_runs_of := fun_mk (st := s_runs_of) l_runs_of c_runs_of k_runs_of
  have F__law_begun := fun_mk (st := s__law_begun) l__law_begun c__law_begun k__law_begun
  have F__law_draw := fun_mk (st := s__law_draw) l__law_draw c__law_draw k__law_draw
  have F__law_ticks := fun_mk (st := s__law_ticks) l__law_ticks c__law_ticks k__law_ticks
  have F__law_groups := fun_mk (st := s__law_groups) l__law_groups c__law_groups k__law_groups
  have F__law_told_right := fun_mk (st := s__law_told_right) l__law_told_right c__law_told_right k__law_told_right
  have F__law_refusal := fun_mk (st := s__law_refusal) l__law_refusal c__law_refusal k__law_refusal
  have F__law_whole := fun_mk (st := s__law_whole) l__law_whole c__law_whole k__law_whole
  have F__law_wrong_at := fun_mk (st := s__law_wrong_at) l__law_wrong_at c__law_wrong_at k__law_wrong_at
  have ti__law_given_right := tab_mk a__law_given_right l__law_given_right rfl lc__law_given_right hv__law_given_right
  have F__law_given_right := funC_mk (st := s__law_given_right) ti__law_given_right l__law_given_right c__law_given_right k__law_given_right
  have ti_law := tab_mk a_law l_law rfl lc_law hv_law
  have F_law := funC_mk (st := s_law) ti_law l_law c_law k_law
  have re_NoNumber : BX.ErrC K (cErr K "NoNumber") := by
    rw [cErr_of ac_NoNumber]
    exact ⟨xk_NoNumber, xq_NoNumber, xs_NoNumber, xt_NoNumber, BX.exm_self xs_NoNumber xi_NoNumber xt_NoNumber xu_NoNumber, ⟨xg_NoNumber, xh_NoNumber, xs_NoNumber, xd_NoNumber, xa_NoNumber, xn_NoNumber, xw_NoNumber, xm_NoNumber⟩, BX.kit_ve (by decide +kernel) xv_NoNumber⟩
  have re_NoTruth : BX.ErrC K (cErr K "NoTruth") := by
    rw [cErr_of ac_NoTruth]
    exact ⟨xk_NoTruth, xq_NoTruth, xs_NoTruth, xt_NoTruth, BX.exm_self xs_NoTruth xi_NoTruth xt_NoTruth xu_NoTruth, ⟨xg_NoTruth, xh_NoTruth, xs_NoTruth, xd_NoTruth, xa_NoTruth, xn_NoTruth, xw_NoTruth, xm_NoTruth⟩, BX.kit_ve (by decide +kernel) xv_NoTruth⟩
  let T : Tx K mg := {
    m_isinstance := PySem.W.mg_none_of X G z_isinstance
    m_int := PySem.W.mg_none_of X G z_int
    m_bool := PySem.W.mg_none_of X G z_bool
    m_list := PySem.W.mg_none_of X G z_list
    m_len := PySem.W.mg_none_of X G z_len
    m_max := PySem.W.mg_none_of X G z_max
    m_enumerate := PySem.W.mg_none_of X G z_enumerate
    m_tuple := PySem.W.mg_none_of X G z_tuple
    m_range := PySem.W.mg_none_of X G z_range
    m_abs := PySem.W.mg_none_of X G z_abs
    m_sorted := PySem.W.mg_none_of X G z_sorted
    f_NoTick___init__ := f_NoTick___init__
    d_NoTick___init__ := _
    F_NoTick___init__ := F_NoTick___init__
    b_NoTick___init__ := F_NoTick___init__.binds (ps := ["self", "at"]) fun _ _ _ _ _ _ us hl => match us, hl with | [_, _], _ => rfl
    f_is_tick := f_is_tick
    d_is_tick := _
    F_is_tick := F_is_tick
    b_is_tick := F_is_tick.binds (ps := ["thing", "least", "most"]) fun _ _ _ _ _ _ us hl => match us, hl with | [_, _, _], _ => rfl
    g_is_tick := PySem.W.mg_of X G a_is_tick
    f_Runs___init__ := f_Runs___init__
    d_Runs___init__ := _
    F_Runs___init__ := F_Runs___init__
    b_Runs___init__ := F_Runs___init__.binds (ps := ["self"]) fun _ _ _ _ _ _ us hl => match us, hl with | [_], _ => rfl
    f_Runs_now := f_Runs_now
    d_Runs_now := _
    F_Runs_now := F_Runs_now
    b_Runs_now := F_Runs_now.binds (ps := ["self"]) fun _ _ _ _ _ _ us hl => match us, hl with | [_], _ => rfl
    f_Runs_groups := f_Runs_groups
    d_Runs_groups := _
    F_Runs_groups := F_Runs_groups
    b_Runs_groups := F_Runs_groups.binds (ps := ["self"]) fun _ _ _ _ _ _ us hl => match us, hl with | [_], _ => rfl
    f_Runs_twin := f_Runs_twin
    d_Runs_twin := _
    F_Runs_twin := F_Runs_twin
    b_Runs_twin := F_Runs_twin.binds (ps := ["self"]) fun _ _ _ _ _ _ us hl => match us, hl with | [_], _ => rfl
    f_Runs___eq__ := f_Runs___eq__
    d_Runs___eq__ := _
    F_Runs___eq__ := F_Runs___eq__
    b_Runs___eq__ := F_Runs___eq__.binds (ps := ["self", "other"]) fun _ _ _ _ _ _ us hl => match us, hl with | [_, _], _ => rfl
    f_Runs_tick := f_Runs_tick
    d_Runs_tick := _
    F_Runs_tick := F_Runs_tick
    b_Runs_tick := F_Runs_tick.binds (ps := ["self", "marked"]) fun _ _ _ _ _ _ us hl => match us, hl with | [_, _], _ => rfl
    f_runs_of := f_runs_of
    d_runs_of := _
    F_runs_of := F_runs_of
    b_runs_of := F_runs_of.binds (ps := ["now", "ticks"]) fun _ _ _ _ _ _ us hl => match us, hl with | [_, _], _ => rfl
    g_runs_of := PySem.W.mg_of X G a_runs_of
    f__law_begun := f__law_begun
    d__law_begun := _
    F__law_begun := F__law_begun
    b__law_begun := F__law_begun.binds (ps := ["_law_script"]) fun _ _ _ _ _ _ us hl => match us, hl with | [_], _ => rfl
    g__law_begun := PySem.W.mg_of X G a__law_begun
    f__law_draw := f__law_draw
    d__law_draw := _
    F__law_draw := F__law_draw
    b__law_draw := F__law_draw.binds (ps := ["_law_state", "_law_many"]) fun _ _ _ _ _ _ us hl => match us, hl with | [_, _], _ => rfl
    g__law_draw := PySem.W.mg_of X G a__law_draw
    f__law_ticks := f__law_ticks
    d__law_ticks := _
    F__law_ticks := F__law_ticks
    b__law_ticks := F__law_ticks.binds (ps := ["_law_state", "_law_many"]) fun _ _ _ _ _ _ us hl => match us, hl with | [_, _], _ => rfl
    g__law_ticks := PySem.W.mg_of X G a__law_ticks
    f__law_groups := f__law_groups
    d__law_groups := _
    F__law_groups := F__law_groups
    b__law_groups := F__law_groups.binds (ps := ["_law_marked"]) fun _ _ _ _ _ _ us hl => match us, hl with | [_], _ => rfl
    g__law_groups := PySem.W.mg_of X G a__law_groups
    f__law_told_right := f__law_told_right
    d__law_told_right := _
    F__law_told_right := F__law_told_right
    b__law_told_right := F__law_told_right.binds (ps := ["_law_runs", "_law_marked"]) fun _ _ _ _ _ _ us hl => match us, hl with | [_, _], _ => rfl
    g__law_told_right := PySem.W.mg_of X G a__law_told_right
    f__law_refusal := f__law_refusal
    d__law_refusal := _
    F__law_refusal := F__law_refusal
    b__law_refusal := F__law_refusal.binds (ps := ["_law_work"]) fun _ _ _ _ _ _ us hl => match us, hl with | [_], _ => rfl
    g__law_refusal := PySem.W.mg_of X G a__law_refusal
    f__law_whole := f__law_whole
    d__law_whole := _
    F__law_whole := F__law_whole
    b__law_whole := F__law_whole.binds (ps := ["_law_thing"]) fun _ _ _ _ _ _ us hl => match us, hl with | [_], _ => rfl
    g__law_whole := PySem.W.mg_of X G a__law_whole
    f__law_wrong_at := f__law_wrong_at
    d__law_wrong_at := _
    F__law_wrong_at := F__law_wrong_at
    b__law_wrong_at := F__law_wrong_at.binds (ps := ["_law_now", "_law_ticks_here"]) fun _ _ _ _ _ _ us hl => match us, hl with | [_, _], _ => rfl
    g__law_wrong_at := PySem.W.mg_of X G a__law_wrong_at
    f__law_given_right := f__law_given_right
    d__law_given_right := _
    F__law_given_right := F__law_given_right
    b__law_given_right := F__law_given_right.binds (ps := ["_law_state", "_law_marked"]) fun _ _ _ _ _ _ us hl => match us, hl with | [_, _], _ => rfl
    g__law_given_right := PySem.W.mg_of X G a__law_given_right
    f_law := fa
    d_law := _
    F_law := F_law
    K_Runs := ⟨mk_Runs, t_Runs___init__, i_Runs___init__, kc_Runs⟩
    M_Runs_now := ⟨t_Runs_now, i_Runs_now, k_Runs_now⟩
    M_Runs_groups := ⟨t_Runs_groups, i_Runs_groups, k_Runs_groups⟩
    M_Runs_twin := ⟨t_Runs_twin, i_Runs_twin, k_Runs_twin⟩
    M_Runs___eq__ := ⟨t_Runs___eq__, i_Runs___eq__, k_Runs___eq__⟩
    M_Runs_tick := ⟨t_Runs_tick, i_Runs_tick, k_Runs_tick⟩
    c_Runs := c_Runs
    g_Runs := PySem.W.mg_of X G ac_Runs
    rc_Runs := ⟨⟨⟨pg_Runs, hd_Runs, po_Runs, sa_Runs⟩, ia_Runs, ib_Runs, ic_Runs, id_Runs, ie_Runs⟩, n_ticks_Runs, n_held_Runs⟩
    nf_Runs := ⟨nf_Runs_0, nf_Runs_1⟩
    g_LeftError := by
      rw [cErr_of ac_LeftError]
      exact PySem.W.mg_of X G ac_LeftError
    g_NoNumber := by
      rw [cErr_of ac_NoNumber]
      exact PySem.W.mg_of X G ac_NoNumber
    g_NoTick := by
      rw [cErr_of ac_NoTick]
      exact PySem.W.mg_of X G ac_NoTick
    g_NoTruth := by
      rw [cErr_of ac_NoTruth]
      exact PySem.W.mg_of X G ac_NoTruth
    rc_NoNumber := re_NoNumber
    rc_NoTruth := re_NoTruth
    ri_NoTick := by
      rw [cErr_of ac_NoTick]
      exact BE.oex_mk yo_NoTick ya_NoTick xs_NoTick xt_NoTick xk_NoTick
    ii_NoTick := by
      rw [cErr_of ac_NoTick]
      exact t_NoTick___init__
    ti_NoTick := yt_NoTick
    xo_NoTick_at := by
      rw [cErr_of ac_NoTick]
      exact yf_at_NoTick
    xe_NoTick := by
      rw [cErr_of ac_NoTick]
      exact PySem.W.exm_ref xs_NoTick xd_NoTick xt_NoTick xu_NoTick
    xf_NoTick := by
      rw [cErr_of ac_NoTick]
      exact xfB_ok yx_NoTick
    rf_NoTick := ⟨by
      rw [cErr_of ac_NoTick]
      exact ⟨xg_NoTick, xh_NoTick, xs_NoTick, xd_NoTick, xa_NoTick, xn_NoTick, xw_NoTick, xm_NoTick⟩, by rw [cErr_of ac_NoTick]; exact BX.kit_ve (by decide +kernel) xv_NoTick, by rw [cErr_of ac_NoTick, cErr_of ac_LeftError]; exact PySem.W.exm_ref zs_LeftError zd_LeftError zt_LeftError zl_NoTick, refd_mk ["NoTick", "NoNumber", "NoTruth"] ⟨by rw [cErr_of ac_NoTick]; exact kk_NoTick_NoTick.trans (by decide +kernel), by rw [cErr_of ac_NoTick, cErr_of ac_NoNumber]; exact kk_NoTick_NoNumber.trans (by decide +kernel), by rw [cErr_of ac_NoTick, cErr_of ac_NoTruth]; exact kk_NoTick_NoTruth.trans (by decide +kernel), trivial⟩⟩
    rf_NoNumber := ⟨by
      rw [cErr_of ac_NoNumber]
      exact ⟨xg_NoNumber, xh_NoNumber, xs_NoNumber, xd_NoNumber, xa_NoNumber, xn_NoNumber, xw_NoNumber, xm_NoNumber⟩, by rw [cErr_of ac_NoNumber]; exact BX.kit_ve (by decide +kernel) xv_NoNumber, by rw [cErr_of ac_NoNumber, cErr_of ac_LeftError]; exact PySem.W.exm_ref zs_LeftError zd_LeftError zt_LeftError zl_NoNumber, refd_mk ["NoTick", "NoNumber", "NoTruth"] ⟨by rw [cErr_of ac_NoNumber, cErr_of ac_NoTick]; exact kk_NoNumber_NoTick.trans (by decide +kernel), by rw [cErr_of ac_NoNumber]; exact kk_NoNumber_NoNumber.trans (by decide +kernel), by rw [cErr_of ac_NoNumber, cErr_of ac_NoTruth]; exact kk_NoNumber_NoTruth.trans (by decide +kernel), trivial⟩⟩
    rf_NoTruth := ⟨by
      rw [cErr_of ac_NoTruth]
      exact ⟨xg_NoTruth, xh_NoTruth, xs_NoTruth, xd_NoTruth, xa_NoTruth, xn_NoTruth, xw_NoTruth, xm_NoTruth⟩, by rw [cErr_of ac_NoTruth]; exact BX.kit_ve (by decide +kernel) xv_NoTruth, by rw [cErr_of ac_NoTruth, cErr_of ac_LeftError]; exact PySem.W.exm_ref zs_LeftError zd_LeftError zt_LeftError zl_NoTruth, refd_mk ["NoTick", "NoNumber", "NoTruth"] ⟨by rw [cErr_of ac_NoTruth, cErr_of ac_NoTick]; exact kk_NoTruth_NoTick.trans (by decide +kernel), by rw [cErr_of ac_NoTruth, cErr_of ac_NoNumber]; exact kk_NoTruth_NoNumber.trans (by decide +kernel), by rw [cErr_of ac_NoTruth]; exact kk_NoTruth_NoTruth.trans (by decide +kernel), trivial⟩⟩
    wd__law_given_right_law := by
      rw [tabP_of ti__law_given_right, tabP_of ti_law]
      exact fun z => by rw [beq_eq_false_iff_ne] at wd__law_given_right_law; exact wd__law_given_right_law z }
  exact ⟨T.d_law, fun s v => .of_eq rfl, (fun x hx => by
    simp only [List.mem_cons, List.not_mem_nil, or_false] at hx
    rcases hx with rfl | rfl
    · exact ⟨_, _, ti__law_given_right, tn__law_given_right⟩
    · exact ⟨_, _, ti_law, tn_law⟩), fun base _ _ TB => ok_law T TB⟩
theorem walk {l : PySem.W.OpenLaw} {q : Program} {loose : List Str} {XP : (Str → Option Value) → Heap → Prop} {YP : World → Heap → Prop} {d : DefRec} {K : Params → PySem.W.Frag} (hn : l.most = some 63) (hdf : d.params.defaults = []) (hrec : ((["_law_given_right", "law"] : List Str).all fun x => ((PyProof.Rows.recsOf q).find? fun e => e.name == x).isSome) = true)
    (hY : ∀ (w : World) (h : Heap), YP w h → (K w.params).In h)
    (F : ∀ (w : World) (mg : Str → Option Value) (fa : Addr) (h : Heap), (K w.params).In h → h.Ns mainGlobals mg → mg d.name = some (.ref fa) →
      ∃ fd : FuncData, (∀ (s : Shared) (u : Value), BindsTo s fd ⟨[u], []⟩ [("_law_script", u)]) ∧ (∀ x, x ∈ (["_law_given_right", "law"] : List Str) → ∃ c P, PySem.W.tabIn (K w.params) x = some (c, P) ∧ (K w.params).lookup P = none) ∧ ∀ base : Heap, (K w.params).In base → base.Ns mainGlobals mg → (∀ x, x ∈ (["_law_given_right", "law"] : List Str) → LamX.TabB base mg (tabC (K w.params) x) (tabP (K w.params) x)) → FnG l.prog w (K w.params) mg base 7 fa fd ["_law_script"] (sp_law (K w.params))) :
    PySem.W.WalkO q loose XP YP l.row.toRowW d [] (fun f vs => PySem.call f vs) :=
  walkGT (xs := (["_law_given_right", "law"] : List Str)) (n := 63) (k := 7) (x := "_law_script") (sp := fun w => sp_law (K w.params)) hn (by decide) hdf ⟨rfl, by decide, by decide⟩ hrec hY F (fun _ _ a ns hl hT hS => law_in a ns hl hS fun x hx => hT x hx)

end B
open PySem PySem.W PyProof.Rows
set_option maxRecDepth 100000 in
set_option maxHeartbeats 0 in
theorem PySem.Challenge.cw_bygone_k58_groups_kept_holds : PySem.Challenge.rw_bygone_k58_groups_kept.Holds := by
  w_on; o_law; k_head; (case hw => w_witness2)
  k_fill
  refine B.walk (l := PySem.Challenge.rw_bygone_k58_groups_kept) rfl rfl (by decide +kernel) (fun w h Y => PySem.W.km_in_of Y) ?F
  case F =>
    intro w mg fa h KX G hmg
    refine' B.all_mk KX G hmg ?z_isinstance ?z_int ?z_bool ?z_list ?z_len ?z_max ?z_enumerate ?z_tuple ?z_range ?z_abs ?z_sorted ?l_NoTick___init__ ?c_NoTick___init__ ?k_NoTick___init__ ?a_is_tick ?l_is_tick ?c_is_tick ?k_is_tick ?l_Runs___init__ ?c_Runs___init__ ?k_Runs___init__ ?l_Runs_now ?c_Runs_now ?k_Runs_now ?l_Runs_groups ?c_Runs_groups ?k_Runs_groups ?l_Runs_twin ?c_Runs_twin ?k_Runs_twin ?l_Runs___eq__ ?c_Runs___eq__ ?k_Runs___eq__ ?l_Runs_tick ?c_Runs_tick ?k_Runs_tick ?a_runs_of ?l_runs_of ?c_runs_of ?k_runs_of ?a__law_begun ?l__law_begun ?c__law_begun ?k__law_begun ?a__law_draw ?l__law_draw ?c__law_draw ?k__law_draw ?a__law_ticks ?l__law_ticks ?c__law_ticks ?k__law_ticks ?a__law_groups ?l__law_groups ?c__law_groups ?k__law_groups ?a__law_told_right ?l__law_told_right ?c__law_told_right ?k__law_told_right ?a__law_refusal ?l__law_refusal ?c__law_refusal ?k__law_refusal ?a__law_whole ?l__law_whole ?c__law_whole ?k__law_whole ?a__law_wrong_at ?l__law_wrong_at ?c__law_wrong_at ?k__law_wrong_at ?a__law_given_right ?l__law_given_right ?c__law_given_right ?k__law_given_right ?lc__law_given_right ?hv__law_given_right ?tn__law_given_right ?a_law ?l_law ?c_law ?k_law ?lc_law ?hv_law ?tn_law ?ac_Runs ?pg_Runs ?hd_Runs ?po_Runs ?sa_Runs ?mk_Runs ?kc_Runs ?ia_Runs ?ib_Runs ?ic_Runs ?id_Runs ?ie_Runs ?n_ticks_Runs ?n_held_Runs ?t_Runs___init__ ?i_Runs___init__ ?t_Runs_now ?i_Runs_now ?t_Runs_groups ?i_Runs_groups ?t_Runs_twin ?i_Runs_twin ?t_Runs___eq__ ?i_Runs___eq__ ?t_Runs_tick ?i_Runs_tick ?nf_Runs_0 ?nf_Runs_1 ?ac_LeftError ?ac_NoNumber ?ac_NoTick ?ac_NoTruth ?xk_NoNumber ?xq_NoNumber ?xs_NoNumber ?xt_NoNumber ?xi_NoNumber ?xu_NoNumber ?xg_NoNumber ?xh_NoNumber ?xd_NoNumber ?xa_NoNumber ?xn_NoNumber ?xw_NoNumber ?xm_NoNumber ?xv_NoNumber ?xk_NoTruth ?xq_NoTruth ?xs_NoTruth ?xt_NoTruth ?xi_NoTruth ?xu_NoTruth ?xg_NoTruth ?xh_NoTruth ?xd_NoTruth ?xa_NoTruth ?xn_NoTruth ?xw_NoTruth ?xm_NoTruth ?xv_NoTruth ?xk_NoTick ?xs_NoTick ?xt_NoTick ?xg_NoTick ?xh_NoTick ?xd_NoTick ?xa_NoTick ?xn_NoTick ?xw_NoTick ?xm_NoTick ?xv_NoTick ?yo_NoTick ?ya_NoTick ?t_NoTick___init__ ?yt_NoTick ?yf_at_NoTick ?xu_NoTick ?yx_NoTick ?zs_LeftError ?zd_LeftError ?zt_LeftError ?zl_NoTick ?kk_NoTick_NoTick ?kk_NoTick_NoNumber ?kk_NoTick_NoTruth ?zl_NoNumber ?kk_NoNumber_NoTick ?kk_NoNumber_NoNumber ?kk_NoNumber_NoTruth ?zl_NoTruth ?kk_NoTruth_NoTick ?kk_NoTruth_NoNumber ?kk_NoTruth_NoTruth ?wd__law_given_right_law
    (case z_isinstance => k_is)
    (case z_int => k_is)
    (case z_bool => k_is)
    (case z_list => k_is)
    (case z_len => k_is)
    (case z_max => k_is)
    (case z_enumerate => k_is)
    (case z_tuple => k_is)
    (case z_range => k_is)
    (case z_abs => k_is)
    (case z_sorted => k_is)
    (case ac_Runs => k_is)
    (case ac_LeftError => k_is)
    (case ac_NoNumber => k_is)
    (case ac_NoTick => k_is)
    (case ac_NoTruth => k_is)
    (case t_Runs___init__ => k_is)
    (case t_Runs_now => k_is)
    (case t_Runs_groups => k_is)
    (case t_Runs_twin => k_is)
    (case t_Runs___eq__ => k_is)
    (case t_Runs_tick => k_is)
    (case t_NoTick___init__ => k_is)
    (case a_is_tick => k_is)
    (case a_runs_of => k_is)
    (case a__law_begun => k_is)
    (case a__law_draw => k_is)
    (case a__law_ticks => k_is)
    (case a__law_groups => k_is)
    (case a__law_told_right => k_is)
    (case a__law_refusal => k_is)
    (case a__law_whole => k_is)
    (case a__law_wrong_at => k_is)
    (case a__law_given_right => k_is)
    (case a_law => k_is)
    (case l_NoTick___init__ => k_is)
    (case c_NoTick___init__ => k_is)
    (case k_NoTick___init__ => k_is)
    (case l_is_tick => k_is)
    (case c_is_tick => k_is)
    (case k_is_tick => k_is)
    (case l_Runs___init__ => k_is)
    (case c_Runs___init__ => k_is)
    (case k_Runs___init__ => k_is)
    (case l_Runs_now => k_is)
    (case c_Runs_now => k_is)
    (case k_Runs_now => k_is)
    (case l_Runs_groups => k_is)
    (case c_Runs_groups => k_is)
    (case k_Runs_groups => k_is)
    (case l_Runs_twin => k_is)
    (case c_Runs_twin => k_is)
    (case k_Runs_twin => k_is)
    (case l_Runs___eq__ => k_is)
    (case c_Runs___eq__ => k_is)
    (case k_Runs___eq__ => k_is)
    (case l_Runs_tick => k_is)
    (case c_Runs_tick => k_is)
    (case k_Runs_tick => k_is)
    (case l_runs_of => k_is)
    (case c_runs_of => k_is)
    (case k_runs_of => k_is)
    (case l__law_begun => k_is)
    (case c__law_begun => k_is)
    (case k__law_begun => k_is)
    (case l__law_draw => k_is)
    (case c__law_draw => k_is)
    (case k__law_draw => k_is)
    (case l__law_ticks => k_is)
    (case c__law_ticks => k_is)
    (case k__law_ticks => k_is)
    (case l__law_groups => k_is)
    (case c__law_groups => k_is)
    (case k__law_groups => k_is)
    (case l__law_told_right => k_is)
    (case c__law_told_right => k_is)
    (case k__law_told_right => k_is)
    (case l__law_refusal => k_is)
    (case c__law_refusal => k_is)
    (case k__law_refusal => k_is)
    (case l__law_whole => k_is)
    (case c__law_whole => k_is)
    (case k__law_whole => k_is)
    (case l__law_wrong_at => k_is)
    (case c__law_wrong_at => k_is)
    (case k__law_wrong_at => k_is)
    (case l__law_given_right => k_is)
    (case c__law_given_right => k_is)
    (case k__law_given_right => k_is)
    (case lc__law_given_right => k_is)
    (case hv__law_given_right => exact rfl)
    (case tn__law_given_right => kernel_rfl)
    (case l_law => k_is)
    (case c_law => k_is)
    (case k_law => k_is)
    (case lc_law => k_is)
    (case hv_law => exact rfl)
    (case tn_law => kernel_rfl)
    (case pg_Runs => k_is)
    (case hd_Runs => k_is)
    (case po_Runs => k_is)
    (case sa_Runs => k_is)
    (case mk_Runs => k_is)
    (case kc_Runs => k_is)
    (case ia_Runs => k_is)
    (case ib_Runs => k_is)
    (case ic_Runs => k_is)
    (case id_Runs => k_is)
    (case ie_Runs => exact if_pos (beq_self_eq_true _))
    (case n_ticks_Runs => k_is)
    (case n_held_Runs => k_is)
    (case i_Runs___init__ => k_is)
    (case i_Runs_now => k_is)
    (case i_Runs_groups => k_is)
    (case i_Runs_twin => k_is)
    (case i_Runs___eq__ => k_is)
    (case i_Runs_tick => k_is)
    (case nf_Runs_0 => k_is)
    (case nf_Runs_1 => kit_is)
    (case xk_NoNumber => k_is)
    (case xq_NoNumber => k_exc)
    (case xs_NoNumber => k_is)
    (case xt_NoNumber => k_is)
    (case xi_NoNumber => k_is)
    (case xu_NoNumber => first | rfl | k_is)
    (case xg_NoNumber => k_is)
    (case xh_NoNumber => k_is)
    (case xd_NoNumber => k_is)
    (case xa_NoNumber => k_is)
    (case xn_NoNumber => k_is)
    (case xw_NoNumber => k_is)
    (case xm_NoNumber => k_is)
    (case xv_NoNumber => k_is)
    (case xk_NoTruth => k_is)
    (case xq_NoTruth => k_exc)
    (case xs_NoTruth => k_is)
    (case xt_NoTruth => k_is)
    (case xi_NoTruth => k_is)
    (case xu_NoTruth => first | rfl | k_is)
    (case xg_NoTruth => k_is)
    (case xh_NoTruth => k_is)
    (case xd_NoTruth => k_is)
    (case xa_NoTruth => k_is)
    (case xn_NoTruth => k_is)
    (case xw_NoTruth => k_is)
    (case xm_NoTruth => k_is)
    (case xv_NoTruth => k_is)
    (case xk_NoTick => k_is)
    (case xs_NoTick => k_is)
    (case xt_NoTick => k_is)
    (case xg_NoTick => k_is)
    (case xh_NoTick => k_is)
    (case xd_NoTick => k_is)
    (case xa_NoTick => k_is)
    (case xn_NoTick => k_is)
    (case xw_NoTick => k_is)
    (case xm_NoTick => k_is)
    (case xv_NoTick => k_is)
    (case yo_NoTick => kernel_rfl)
    (case ya_NoTick => k_is)
    (case yt_NoTick => k_is)
    (case yf_at_NoTick => k_is)
    (case xu_NoTick => first | rfl | k_is)
    (case yx_NoTick => kernel_rfl)
    (case zs_LeftError => k_is)
    (case zd_LeftError => k_is)
    (case zt_LeftError => k_is)
    (case zl_NoTick => k_is)
    (case kk_NoTick_NoTick => kit_is)
    (case kk_NoTick_NoNumber => kit_is)
    (case kk_NoTick_NoTruth => kit_is)
    (case zl_NoNumber => k_is)
    (case kk_NoNumber_NoTick => kit_is)
    (case kk_NoNumber_NoNumber => kit_is)
    (case kk_NoNumber_NoTruth => kit_is)
    (case zl_NoTruth => k_is)
    (case kk_NoTruth_NoTick => kit_is)
    (case kk_NoTruth_NoNumber => kit_is)
    (case kk_NoTruth_NoTruth => kit_is)
    (case wd__law_given_right_law => kernel_rfl)
