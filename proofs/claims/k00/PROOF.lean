import PyProof.Rows.All
import Wide.All
import OpenK.AllK
import Wide.FinOn
import HandS.ForMost
import HandS.Evl
import HandS.IsInst
import HandS.Style
import HandS.SortInts
import HandS.ListItems
import HandS.DictComp
import KE.DatumMoreOrd
import KE.DatumIndex
import KE.GoesZip
import KE.GoesMore
import KE.KTupSum
import KE.KDictSum
import HandS.Zip
import HandS.SortKw
import HandS.TupMul
import HandS.SetKeys
import HandS.Conv
import HandS.TupAny
import HandS.OwnEq
import HandS.SlotsOwn
import HandS.HeadEnd
import KE.GoesEnum
import HandS.TupLe
import HandS.NoneIn
import HandS.SetFor
import HandS.Set
import HandS.Exc
import HandS.ExcOwn
import HandS.ExcIs
import HandS.WordsExc
import HandS.ExcInit
import HandS.ExcField
import HandS.ExcValue
import HandS.Wide
import PyProof.StrBlock2
import HandS.WideBits
import HandS.Text
import HandS.MakeKwOnly
import PyProof.InstEq
import KE.SortData
import KE.KItemsList
import HandS.DictTup
import PyProof.ConsumeS
import PyProof.WalkInts
import PyProof.GenQ
import HandS.Ends
import PyProof.ReprReads
import PyProof.Rows.StrMeet
import HandS.Finally
import PyProof.ReprLen
import PyProof.StrLawsRepr
import PyProof.Rows.RegStrFacts
import PySem.Challenge.RW_bygone_k00_refusals_made
set_option Elab.async false
set_option linter.all false
set_option maxRecDepth 100000
set_option maxHeartbeats 4000000
/-! B: worlds (an unchanging part of the heap within the heap), data read off the unchanging part, what a reading evaluates to -/
namespace B
open PySem L2
abbrev SS := L2.St
abbrev Fg := PySem.W.Frag
open Evl (Ex)
open PySem.W (Tup T3 T4 Datum DatumOrd)

/-! ### heaps -/
/-- all is kept, but that a dict may be locked -/
def Ext (H H' : Hp) : Prop := ∀ a o, H a = some o → H' a = some o ∨ ((∃ kvs, o = HO.dK kvs) ∧ ∃ ob, H' a = some (.frz ob o))
theorem Ext.refl (H : Hp) : Ext H H := fun _ _ h => .inl h
theorem exExt {H H' : Hp} (e : Ex H H') : Ext H H' := fun a o h => .inl (e a o h)
theorem Ext.trans {H H1 H2 : Hp} (a : Ext H H1) (b : Ext H1 H2) : Ext H H2 := fun x o h => by
  rcases a x o h with h1 | ⟨⟨k, rfl⟩, ob, h1⟩
  · exact b x o h1
  · rcases b x _ h1 with h2 | ⟨⟨k', h2⟩, _⟩
    · exact .inr ⟨⟨k, rfl⟩, ob, h2⟩
    · cases h2
theorem Ext.rd {H H' : Hp} {a : Addr} {u : HO} (e : Ext H H') (h : Rd H a u) : Rd H' a u := by
  rcases h with h | ⟨o, h⟩
  · rcases e a _ h with h1 | ⟨_, ob, h1⟩
    · exact .inl h1
    · exact .inr ⟨ob, h1⟩
  · rcases e a _ h with h1 | ⟨⟨k, h1⟩, _⟩
    · exact .inr ⟨o, h1⟩
    · cases h1
theorem Ext.free {H H' : Hp} {p : Addr} (e : Ext H H') (h : H' p = none) : H p = none := by
  cases q : H p with
  | none => rfl
  | some o => rcases e p o q with h1 | ⟨_, ob, h1⟩ <;> (rw [h] at h1; cases h1)
theorem Ext.l {K : Fg} {H H' : Hp} {a : Addr} {xs : List V} (e : Ext H H') (h : SqL K H a xs) : SqL K H' a xs := by
  rcases h with h | h
  · exact .inl (e.rd h)
  · exact .inr h
theorem Ext.t {K : Fg} {H H' : Hp} {a : Addr} {xs : List V} (e : Ext H H') (h : SqT K H a xs) : SqT K H' a xs := by
  rcases h with h | h
  · exact .inl (e.rd h)
  · exact .inr h
theorem Ext.el {H H' : Hp} {a : Addr} {xs : List V} (e : Ext H H') (h : H a = some (.lst xs)) : H' a = some (.lst xs) := by
  rcases e a _ h with h1 | ⟨⟨_, q⟩, _⟩
  · exact h1
  · cases q
theorem Ext.et {H H' : Hp} {a : Addr} {xs : List V} (e : Ext H H') (h : H a = some (.tup xs)) : H' a = some (.tup xs) := by
  rcases e a _ h with h1 | ⟨⟨_, q⟩, _⟩
  · exact h1
  · cases q
theorem Ext.ins {H H' : Hp} {a C dx : Addr} {fs : List (Str × V)} (e : Ext H H') (h : H a = some (.ins C dx fs)) : H' a = some (.ins C dx fs) := by
  rcases e a _ h with h1 | ⟨⟨_, q⟩, _⟩
  · exact h1
  · cases q
theorem Ext.lock {H : Hp} {d : Addr} {kvs : List (Key × V)} {od : Obj} (h : H d = some (.dK kvs)) : Ext H (upd H d (.frz od (.dK kvs))) := fun a o e => by
  by_cases q : a = d
  · subst q
    rw [h] at e; cases e
    exact .inr ⟨⟨kvs, rfl⟩, od, upd_same⟩
  · exact .inl (by rw [upd_ne q]; exact e)

/-- a world: the heap H, within it the part B that stays as it is -/
structure Wd where
  B : Hp
  H : Hp
  sub : Ext B H
/-- a thing that is no tuple stands at a -/
def Nt (H : Hp) (a : Addr) : Prop := ∃ o, H a = some o ∧ ∀ xs, o ≠ .tup xs
theorem Nt.ne {H : Hp} {a : Addr} (h : Nt H a) : H a ≠ none := by
  obtain ⟨o, e, _⟩ := h
  rw [e]; exact fun z => by cases z
theorem Nt.l {H : Hp} {a : Addr} {xs : List V} (h : H a = some (.lst xs)) : Nt H a := ⟨_, h, fun _ z => by cases z⟩
theorem Nt.k {H : Hp} {a : Addr} {xs : List (Key × V)} (h : H a = some (.dK xs)) : Nt H a := ⟨_, h, fun _ z => by cases z⟩
/-- the world has moved on: what stays is as it was (and no more of it is locked), of the rest only S may have changed; what was free to change still is -/
structure Md (S : List Addr) (W W' : Wd) : Prop where
  b : Ex W.B W'.B
  l : ∀ a o, W.B a = some o → W.H a = some o → W'.H a = some o
  o : ∀ a o, a ∉ S → W.H a = some o → W'.H a = some o
  m : ∀ a, Nt W.H a → W'.B a = W.B a
  d : ∀ a, W.H a ≠ none → W'.H a ≠ none
  n : ∀ a, Nt W.H a → Nt W'.H a
theorem Md.refl (S : List Addr) (W : Wd) : Md S W W := ⟨Evl.Ex.refl _, fun _ _ _ h => h, fun _ _ _ h => h, fun _ _ => rfl, fun _ h => h, fun _ h => h⟩
theorem Md.trans {S : List Addr} {W W1 W2 : Wd} (a : Md S W W1) (b : Md S W1 W2) : Md S W W2 := ⟨a.b.trans b.b, fun x o h1 h2 => b.l x o (a.b x o h1) (a.l x o h1 h2), fun x o h1 h2 => b.o x o h1 (a.o x o h1 h2), fun x hx => by
  rw [b.m x (a.n x hx), a.m x hx], fun x hx => b.d x (a.d x hx), fun x hx => b.n x (a.n x hx)⟩
theorem Md.mono {S S' : List Addr} {W W' : Wd} (a : Md S W W') (h : ∀ x, x ∈ S → x ∈ S') : Md S' W W' := ⟨a.b, a.l, fun x o h1 h2 => a.o x o (fun z => h1 (h x z)) h2, a.m, a.d, a.n⟩
theorem Md.mut {S : List Addr} {W W' : Wd} (g : Md S W W') {a : Addr} {o : HO} (hS : a ∉ S) (h : W.H a = some o) (n : W.B a = none) (ho : ∀ xs, o ≠ .tup xs := by intro _ h; cases h) : W'.H a = some o ∧ W'.B a = none :=
  ⟨g.o a o hS h, by rw [g.m a ⟨o, h, ho⟩]; exact n⟩
abbrev Grow := Md []
theorem Md.h {W W' : Wd} (g : Md [] W W') : Ex W.H W'.H := fun a o e => g.o a o (by simp) e
theorem Grow.s {S : List Addr} {W W' : Wd} (g : Grow W W') : Md S W W' := g.mono fun _ h => by simp at h
theorem Grow.mk {W W' : Wd} (b : Ex W.B W'.B) (h : Ex W.H W'.H) (m : ∀ a, Nt W.H a → W'.B a = W.B a) : Grow W W' := ⟨b, fun a o _ h2 => h a o h2, fun a o _ h2 => h a o h2, m, fun a h2 z => (by
  cases q : W.H a with
  | none => exact h2 q
  | some o => rw [h a o q] at z; cases z), fun a ⟨o, e, ho⟩ => ⟨o, h a o e, ho⟩⟩
theorem Wd.free (W : Wd) {p : Addr} (h : W.H p = none) : W.B p = none := W.sub.free h
/-- a new thing that stays -/
def Wd.add (W : Wd) (p : Addr) (o : HO) : Wd := ⟨upd W.B p o, upd W.H p o, fun a u e => by
  by_cases q : a = p
  · subst q; rw [upd_same] at e; cases e; exact .inl upd_same
  · rw [upd_ne q] at e; rw [upd_ne q]; exact W.sub a u e⟩
theorem Wd.grow_add (W : Wd) {p : Addr} {o : HO} (h : W.H p = none) : Grow W (W.add p o) :=
  .mk (Evl.Ex.new (W.free h)) (Evl.Ex.new h) fun a ha => by
    have : a ≠ p := fun e => ha.ne (by rw [e]; exact h)
    show upd W.B p o a = W.B a
    rw [upd_ne this]
/-- a thing that may change, new or changed -/
def Wd.put (W : Wd) (p : Addr) (o : HO) (h : W.B p = none) : Wd := ⟨W.B, upd W.H p o, fun a u e => by
  have q : a ≠ p := fun q => by rw [q, h] at e; cases e
  rw [upd_ne q]; exact W.sub a u e⟩
theorem Wd.grow_put (W : Wd) {p : Addr} {o : HO} (h : W.H p = none) : Grow W (W.put p o (W.free h)) :=
  .mk (Evl.Ex.refl _) (Evl.Ex.new h) fun _ _ => rfl
theorem md_put {W : Wd} {p : Addr} {o : HO} (h : W.B p = none) (ho : ∀ xs, o ≠ .tup xs := by intro _ h; cases h) : Md [p] W (W.put p o h) := ⟨Evl.Ex.refl _, fun a u h1 h2 => by
    have : a ≠ p := fun e => by rw [e, h] at h1; cases h1
    show upd W.H p o a = some u
    rw [upd_ne this]; exact h2, fun a u h1 h2 => by
    have : a ≠ p := fun e => h1 (by rw [e]; simp)
    show upd W.H p o a = some u
    rw [upd_ne this]; exact h2, fun _ _ => rfl, fun a ha => by
    show upd W.H p o a ≠ none
    by_cases q : a = p
    · rw [q, upd_same]; exact fun z => by cases z
    · rw [upd_ne q]; exact ha, fun a ha => by
    show Nt (upd W.H p o) a
    by_cases q : a = p
    · rw [q]; exact ⟨o, upd_same, ho⟩
    · obtain ⟨u, e, hu⟩ := ha
      exact ⟨u, (upd_ne q).trans e, hu⟩⟩
/-- tuples never change: those at bs may be taken into what stays -/
def Wd.tup (W : Wd) (bs : List Addr) : Wd := ⟨fun b => match W.B b with
    | some o => some o
    | none => match W.H b with
      | some (.tup xs) => if b ∈ bs then some (.tup xs) else none
      | _ => none, W.H, fun b o e => by
  cases q : W.B b with
  | some u =>
    simp only [q] at e
    cases e
    exact W.sub b _ q
  | none =>
    simp only [q] at e
    cases q2 : W.H b with
    | none => simp only [q2] at e; cases e
    | some u =>
      cases u <;> simp only [q2] at e <;> try (cases e; done)
      split at e
      · cases e; exact .inl rfl
      · cases e⟩
theorem Wd.grow_tup (W : Wd) (bs : List Addr) : Grow W (W.tup bs) := .mk (fun b o e => by
    show (match W.B b with | some o => some o | none => _) = some o
    rw [e]) (fun _ _ h => h) fun b ⟨o, e, ho⟩ => by
  show (match W.B b with | some o => some o | none => _) = W.B b
  cases q : W.B b with
  | some u => rfl
  | none =>
    rw [e]
    cases o <;> first | rfl | exact absurd rfl (ho _)
theorem Wd.tup_at {W : Wd} {bs : List Addr} {b : Addr} {xs : List V} (h : W.H b = some (.tup xs)) (hb : b ∈ bs) : (W.tup bs).B b = some (.tup xs) := by
  show (match W.B b with | some o => some o | none => _) = _
  cases q : W.B b with
  | some u =>
    rcases W.sub b _ q with z | ⟨⟨k, rfl⟩, ob, z⟩
    · rw [h] at z; cases z; rfl
    · rw [h] at z; cases z
  | none =>
    simp only [h, if_pos hb]
/-- what an expression may do: S may change, I holds throughout -/
structure Ef where
  S : List Addr
  I : Wd → Prop
  dom : ∀ W a, I W → a ∈ S → Nt W.H a
  mv : ∀ W W', Ex W.B W'.B → (∀ a, a ∈ S → Nt W.H a → W'.H a = W.H a ∧ W'.B a = W.B a) → I W → I W'
theorem Ef.grow (ε : Ef) (W W' : Wd) (g : Grow W W') (h : ε.I W) : ε.I W' := ε.mv W W' g.b (fun a _ ha => by
  obtain ⟨o, q, _⟩ := id ha
  exact ⟨(g.h a o q).trans q.symm, g.m a ha⟩) h
theorem Ef.off {ε : Ef} {W : Wd} {D : Addr} (i : ε.I W) (h : W.H D = none) : D ∉ ε.S := fun z => (ε.dom W D i z).ne h
def pur : Ef := ⟨[], fun _ => True, fun _ _ _ h => by simp at h, fun _ _ _ _ _ => trivial⟩
structure Stp (ε : Ef) (W W' : Wd) : Prop where
  md : Md ε.S W W'
  i : ε.I W'
theorem Stp.rf {ε : Ef} {W W' : Wd} (a : Stp ε W W') : Stp ε W' W' := ⟨.refl _ _, a.i⟩
theorem Stp.start {ε : Ef} {W : Wd} (a : ε.I W) : Stp ε W W := ⟨.refl _ _, a⟩
theorem Stp.trans {ε : Ef} {W W1 W2 : Wd} (a : Stp ε W W1) (b : Stp ε W1 W2) : Stp ε W W2 := ⟨a.md.trans b.md, b.i⟩
theorem Stp.and {ε : Ef} {W W1 W2 : Wd} (a : Stp ε W W1) (b : Grow W1 W2) : Stp ε W W2 := ⟨a.md.trans (Grow.s b), ε.grow _ _ b a.i⟩
theorem Stp.pure {W W' : Wd} (a : Stp pur W W') : Grow W W' := a.md
theorem Stp.of {W W' : Wd} (a : Grow W W') : Stp pur W W' := ⟨a, trivial⟩

/-! ### data -/
class Py (α : Type) where
  rep : Fg → Hp → V → α → Prop
  mono : ∀ {K : Fg} {H H' : Hp} {v : V} {x : α}, Ext H H' → rep K H v x → rep K H' v x
abbrev rep {α : Type} [Py α] (K : Fg) (H : Hp) (v : V) (x : α) : Prop := Py.rep K H v x
theorem rex {α : Type} [Py α] {K : Fg} {H H' : Hp} {v : V} {x : α} (e : Ex H H') (h : rep K H v x) : rep K H' v x := Py.mono (exExt e) h
instance : Py Int := ⟨fun _ _ v i => v = .int i, fun _ h => h⟩
instance : Py Bool := ⟨fun _ _ v b => v = .bl b, fun _ h => h⟩
instance : Py Str := ⟨fun _ _ v s => v = .str s, fun _ h => h⟩
instance : Py Unit := ⟨fun _ _ v _ => v = .non, fun _ h => h⟩
/-- any value by itself -/
structure Raw where
  v : V
instance : Py Raw := ⟨fun _ _ v x => v = x.v, fun _ h => h⟩
abbrev Reps {α : Type} [Py α] (K : Fg) (H : Hp) (vs : List V) (xs : List α) : Prop := Paired (rep K H) vs xs
theorem Reps.mono {α : Type} [Py α] {K : Fg} {H H' : Hp} (e : Ext H H') : ∀ {vs : List V} {xs : List α}, Reps K H vs xs → Reps K H' vs xs
  | _, _, .nil => .nil
  | _, _, .cons a b => .cons (Py.mono e a) (Reps.mono e b)
theorem Reps.len {α : Type} [Py α] {K : Fg} {H : Hp} {vs : List V} {xs : List α} (h : Reps K H vs xs) : vs.length = xs.length := Paired.length h
theorem Reps.get {α : Type} [Py α] {K : Fg} {H : Hp} : ∀ {vs : List V} {xs : List α}, Reps K H vs xs → ∀ {i : Nat} {v : V}, vs[i]? = some v → ∃ x, xs[i]? = some x ∧ rep K H v x
  | _, _, .nil, i, v, e => by simp at e
  | _, _, .cons a b, 0, v, e => by simp at e; subst e; exact ⟨_, rfl, a⟩
  | _, _, .cons a b, i + 1, v, e => by
    obtain ⟨x, h1, h2⟩ := Reps.get b (i := i) (v := v) (by simpa using e)
    exact ⟨x, by simpa using h1, h2⟩
theorem Reps.get' {α : Type} [Py α] {K : Fg} {H : Hp} : ∀ {vs : List V} {xs : List α}, Reps K H vs xs → ∀ {i : Nat} {x : α}, xs[i]? = some x → ∃ v, vs[i]? = some v ∧ rep K H v x
  | _, _, .nil, i, v, e => by simp at e
  | _, _, .cons a b, 0, v, e => by simp at e; subst e; exact ⟨_, rfl, a⟩
  | _, _, .cons a b, i + 1, v, e => by
    obtain ⟨x, h1, h2⟩ := Reps.get' b (i := i) (x := v) (by simpa using e)
    exact ⟨x, by simpa using h1, h2⟩
theorem Reps.snoc {α : Type} [Py α] {K : Fg} {H : Hp} {vs : List V} {xs : List α} {v : V} {x : α} (h : Reps K H vs xs) (r : rep K H v x) : Reps K H (vs ++ [v]) (xs ++ [x]) := Paired.snoc h r
theorem Reps.app {α : Type} [Py α] {K : Fg} {H : Hp} : ∀ {vs ws : List V} {xs ys : List α}, Reps K H vs xs → Reps K H ws ys → Reps K H (vs ++ ws) (xs ++ ys)
  | _, _, _, _, .nil, h => h
  | _, _, _, _, .cons a b, h => .cons a (Reps.app b h)
theorem Reps.rev {α : Type} [Py α] {K : Fg} {H : Hp} : ∀ {vs : List V} {xs : List α}, Reps K H vs xs → Reps K H vs.reverse xs.reverse
  | _, _, .nil => .nil
  | _, _, .cons a b => by simp only [List.reverse_cons]; exact Reps.snoc (Reps.rev b) a
theorem Reps.take {α : Type} [Py α] {K : Fg} {H : Hp} : ∀ (n : Nat) {vs : List V} {xs : List α}, Reps K H vs xs → Reps K H (vs.take n) (xs.take n)
  | 0, _, _, _ => .nil
  | n + 1, _, _, .nil => .nil
  | n + 1, _, _, .cons a b => .cons a (Reps.take n b)
theorem Reps.drop {α : Type} [Py α] {K : Fg} {H : Hp} : ∀ (n : Nat) {vs : List V} {xs : List α}, Reps K H vs xs → Reps K H (vs.drop n) (xs.drop n)
  | 0, _, _, h => h
  | n + 1, _, _, .nil => .nil
  | n + 1, _, _, .cons a b => Reps.drop n b
theorem Reps.set {α : Type} [Py α] {K : Fg} {H : Hp} {v : V} {x : α} (r : rep K H v x) : ∀ {vs : List V} {xs : List α} (i : Nat), Reps K H vs xs → Reps K H (vs.set i v) (xs.set i x)
  | _, _, _, .nil => .nil
  | _, _, 0, .cons a b => .cons r b
  | _, _, i + 1, .cons a b => .cons a (Reps.set r i b)
theorem reps_int {K : Fg} {H : Hp} : ∀ {vs : List V} {ns : List Int}, Reps K H vs ns → vs = ns.map V.int
  | _, _, .nil => rfl
  | _, _, .cons a b => by rw [show _ = _ from a, reps_int b]; rfl
theorem int_reps {K : Fg} {H : Hp} : ∀ (ns : List Int), Reps K H (ns.map V.int) ns
  | [] => .nil
  | _ :: r => .cons rfl (int_reps r)
theorem reps_str {K : Fg} {H : Hp} : ∀ {vs : List V} {ns : List Str}, Reps K H vs ns → vs = ns.map V.str
  | _, _, .nil => rfl
  | _, _, .cons a b => by rw [show _ = _ from a, reps_str b]; rfl
theorem str_reps {K : Fg} {H : Hp} : ∀ (ns : List Str), Reps K H (ns.map V.str) ns
  | [] => .nil
  | _ :: r => .cons rfl (str_reps r)
theorem reps_bl {K : Fg} {H : Hp} : ∀ {vs : List V} {ns : List Bool}, Reps K H vs ns → vs = ns.map V.bl
  | _, _, .nil => rfl
  | _, _, .cons a b => by rw [show _ = _ from a, reps_bl b]; rfl
theorem bl_reps {K : Fg} {H : Hp} : ∀ (ns : List Bool), Reps K H (ns.map V.bl) ns
  | [] => .nil
  | _ :: r => .cons rfl (bl_reps r)
instance {α : Type} [Py α] : Py (List α) := ⟨fun K H v xs => ∃ a vs, v = .ref a ∧ H a = some (.lst vs) ∧ Reps K H vs xs,
  fun e ⟨a, vs, h1, h2, h3⟩ => ⟨a, vs, h1, e.el h2, Reps.mono e h3⟩⟩
instance {α : Type} [Py α] : Py (Tup α) := ⟨fun K H v xs => ∃ a vs, v = .ref a ∧ H a = some (.tup vs) ∧ Reps K H vs xs.items,
  fun e ⟨a, vs, h1, h2, h3⟩ => ⟨a, vs, h1, e.et h2, Reps.mono e h3⟩⟩
instance {α β : Type} [Py α] [Py β] : Py (α × β) := ⟨fun K H v p => ∃ a x y, v = .ref a ∧ H a = some (.tup [x, y]) ∧ rep K H x p.1 ∧ rep K H y p.2,
  fun e ⟨a, x, y, h1, h2, h3, h4⟩ => ⟨a, x, y, h1, e.et h2, Py.mono e h3, Py.mono e h4⟩⟩
instance {α β γ : Type} [Py α] [Py β] [Py γ] : Py (T3 α β γ) := ⟨fun K H v p => ∃ a x y z, v = .ref a ∧ H a = some (.tup [x, y, z]) ∧ rep K H x p.a ∧ rep K H y p.b ∧ rep K H z p.c,
  fun e ⟨a, x, y, z, h1, h2, h3, h4, h5⟩ => ⟨a, x, y, z, h1, e.et h2, Py.mono e h3, Py.mono e h4, Py.mono e h5⟩⟩
instance {α β γ δ : Type} [Py α] [Py β] [Py γ] [Py δ] : Py (T4 α β γ δ) := ⟨fun K H v p => ∃ a x y z w, v = .ref a ∧ H a = some (.tup [x, y, z, w]) ∧ rep K H x p.a ∧ rep K H y p.b ∧ rep K H z p.c ∧ rep K H w p.d,
  fun e ⟨a, x, y, z, w, h1, h2, h3, h4, h5, h6⟩ => ⟨a, x, y, z, w, h1, e.et h2, Py.mono e h3, Py.mono e h4, Py.mono e h5, Py.mono e h6⟩⟩
instance {α : Type} [Py α] : Py (Option α) := ⟨fun K H v o => match o with | none => v = .non | some x => rep K H v x,
  fun {_ _ _ _ o} e h => match o, h with | none, h => h | some _, h => Py.mono e h⟩
class PyKey (κ : Type) where
  key : κ → Key
  inj : ∀ {a b : κ}, key a = key b → a = b
instance : PyKey Int := ⟨.inl, fun h => Sum.inl.inj h⟩
instance : PyKey Str := ⟨.inr, fun h => Sum.inr.inj h⟩
structure Dict (κ α : Type) where
  kv : List (κ × α)
abbrev KReps {κ α : Type} [PyKey κ] [Py α] (K : Fg) (H : Hp) (ks : List (Key × V)) (xs : List (κ × α)) : Prop := Paired (fun p q => p.1 = PyKey.key q.1 ∧ rep K H p.2 q.2) ks xs
theorem KReps.mono {κ α : Type} [PyKey κ] [Py α] {K : Fg} {H H' : Hp} (e : Ext H H') : ∀ {vs : List (Key × V)} {xs : List (κ × α)}, KReps K H vs xs → KReps K H' vs xs
  | _, _, .nil => .nil
  | _, _, .cons a b => .cons ⟨a.1, Py.mono e a.2⟩ (KReps.mono e b)
theorem KReps.len {κ α : Type} [PyKey κ] [Py α] {K : Fg} {H : Hp} {vs : List (Key × V)} {xs : List (κ × α)} (h : KReps K H vs xs) : vs.length = xs.length := Paired.length h
theorem KReps.get {κ α : Type} [PyKey κ] [Py α] {K : Fg} {H : Hp} : ∀ {vs : List (Key × V)} {xs : List (κ × α)}, KReps K H vs xs → ∀ {i : Nat} {k : Key} {v : V}, vs[i]? = some (k, v) → ∃ q, xs[i]? = some q ∧ k = PyKey.key q.1 ∧ rep K H v q.2
  | _, _, .nil, i, k, v, e => by simp at e
  | _, _, .cons a b, 0, k, v, e => by simp at e; subst e; exact ⟨_, rfl, a⟩
  | _, _, .cons a b, i + 1, k, v, e => by
    obtain ⟨x, h1, h2⟩ := KReps.get b (i := i) (k := k) (v := v) (by simpa using e)
    exact ⟨x, by simpa using h1, h2⟩
instance {κ α : Type} [PyKey κ] [Py α] : Py (Dict κ α) := ⟨fun K H v d => ∃ a ks, v = .ref a ∧ Rd H a (.dK ks) ∧ KReps K H ks d.kv,
  fun e ⟨a, vs, h1, h2, h3⟩ => ⟨a, vs, h1, e.rd h2, KReps.mono e h3⟩⟩
theorem key_rep {κ : Type} [PyKey κ] [Py κ] (K : Fg) (H : Hp) (h : ∀ k : κ, rep K H (kV (PyKey.key k)) k) (k : κ) : rep K H (kV (PyKey.key k)) k := h k
class PyKV (κ : Type) extends PyKey κ, Py κ where
  krep : ∀ (K : Fg) (H : Hp) (k : κ), Py.rep K H (kV (key k)) k
  keyv : ∀ {K : Fg} {H : Hp} {v : V} {k : κ}, Py.rep K H v k → v = kV (key k)
instance : PyKV Int := { krep := fun _ _ _ => rfl, keyv := fun h => h }
instance : PyKV Str := { krep := fun _ _ _ => rfl, keyv := fun h => h }
/-! ### data that == tells apart -/
class PyD (α : Type) [DecidableEq α] [Datum α] [Py α] : Prop where
  dp : ∀ {K : Fg} {H : Hp} {v : V} {x : α}, rep K H v x → Dp K H v (Datum.toD x)
theorem reps_dp {α : Type} [DecidableEq α] [Datum α] [Py α] [PyD α] {K : Fg} {H : Hp} : ∀ {vs : List V} {xs : List α}, Reps K H vs xs → DpAll K H vs (xs.map Datum.toD)
  | _, _, .nil => .nil
  | _, _, .cons a b => .cons (PyD.dp a) (reps_dp b)
instance : PyD Int := ⟨fun {K H v x} h => by rw [show v = _ from h]; exact .int x⟩
instance : PyD Bool := ⟨fun {K H v x} h => by rw [show v = _ from h]; exact .bl x⟩
instance : PyD Str := ⟨fun {K H v x} h => by rw [show v = _ from h]; exact .str x⟩
instance : PyD Unit := ⟨fun {K H v x} h => by rw [show v = _ from h]; exact .non⟩
section
variable {α β γ δ : Type} [DecidableEq α] [Datum α] [Py α] [PyD α] [DecidableEq β] [Datum β] [Py β] [PyD β] [DecidableEq γ] [Datum γ] [Py γ] [PyD γ] [DecidableEq δ] [Datum δ] [Py δ] [PyD δ]
instance : PyD (List α) := ⟨fun ⟨a, vs, e, h, r⟩ => by rw [e]; exact .lst (SqL.of h) (reps_dp r)⟩
instance : PyD (Tup α) := ⟨fun ⟨a, vs, e, h, r⟩ => by rw [e]; exact .tup (SqT.of h) (reps_dp r)⟩
instance : PyD (α × β) := ⟨fun ⟨a, x, y, e, h, r1, r2⟩ => by rw [e]; exact .tup (SqT.of h) (.cons (PyD.dp r1) (.cons (PyD.dp r2) .nil))⟩
instance : PyD (T3 α β γ) := ⟨fun ⟨a, x, y, z, e, h, r1, r2, r3⟩ => by rw [e]; exact .tup (SqT.of h) (.cons (PyD.dp r1) (.cons (PyD.dp r2) (.cons (PyD.dp r3) .nil)))⟩
instance : PyD (T4 α β γ δ) := ⟨fun ⟨a, x, y, z, w, e, h, r1, r2, r3, r4⟩ => by rw [e]; exact .tup (SqT.of h) (.cons (PyD.dp r1) (.cons (PyD.dp r2) (.cons (PyD.dp r3) (.cons (PyD.dp r4) .nil))))⟩
end
theorem holds_of {X : Cx} {pins : List (Addr × Obj)} {σ : SS} {H : Hp} {s : Shared} {α : Type} [DecidableEq α] [Datum α] {v : V} {u : Value} {x : α} (I : Inv X pins σ H s) (h : Dp X.K H v (Datum.toD x)) (r : RelV v u) : PySem.W.Holds s.heap u x := Dp.reads I _ v u h r
/-- == of two such of one type -/
def rEqT (K : Fg) (neg : Bool) : R2 := fun x y H Q => ∃ (α : Type) (_ : DecidableEq α) (_ : Datum α) (a b : α), Dp K H x (Datum.toD a) ∧ Dp K H y (Datum.toD b) ∧ Datum.depth α ≤ 60 ∧ Q (.bl (if neg then !decide (a = b) else decide (a = b))) H
def rLtT (K : Fg) : R2 := fun x y H Q => ∃ (α : Type) (_ : DecidableEq α) (_ : DatumOrd α) (a b : α), Dp K H x (Datum.toD a) ∧ Dp K H y (Datum.toD b) ∧ Datum.depth α ≤ 60 ∧ Q (.bl (DatumOrd.lt a b)) H
def rInTL (K : Fg) (neg : Bool) : R2 := fun x y H Q => ∃ (α : Type) (_ : DecidableEq α) (_ : Datum α) (a : α) (b : List α), Dp K H x (Datum.toD a) ∧ Dp K H y (Datum.toD b) ∧ Datum.depth α ≤ 60 ∧ Q (.bl (if neg then !decide (a ∈ b) else decide (a ∈ b))) H
def rInTT (K : Fg) (neg : Bool) : R2 := fun x y H Q => ∃ (α : Type) (_ : DecidableEq α) (_ : Datum α) (a : α) (b : Tup α), Dp K H x (Datum.toD a) ∧ Dp K H y (Datum.toD b) ∧ Datum.depth α ≤ 60 ∧ Q (.bl (if neg then !decide (a ∈ b.items) else decide (a ∈ b.items))) H
section
variable {X : Cx}
theorem op_eqT (hu : X.A.units + 64 < cLine) : OpR X (compareOp .Eq) (rEqT X.K false) := by
  intro pins s σ H x y v u Q I rx ry h
  obtain ⟨α, _, _, a, b, ha, hb, hd, q⟩ := h
  exact PySem.W.eq_datum (holds_of I ha rx) (holds_of I hb ry) (by omega) ⟨.bl _, H, I, rfl, q⟩
theorem op_neT (hu : X.A.units + 64 < cLine) : OpR X (compareOp .NotEq) (rEqT X.K true) := by
  intro pins s σ H x y v u Q I rx ry h
  obtain ⟨α, _, _, a, b, ha, hb, hd, q⟩ := h
  refine PySem.W.ne_datum (holds_of I ha rx) (holds_of I hb ry) (by omega) ⟨.bl _, H, I, ?_, q⟩
  show Value.bool _ = Value.bool _
  simp
theorem op_ltTT (hu : X.A.units + 64 < cLine) : OpR X (compareOp .Lt) (rLtT X.K) := by
  intro pins s σ H x y v u Q I rx ry h
  obtain ⟨α, _, _, a, b, ha, hb, hd, q⟩ := h
  exact PySem.W.lt_datum (holds_of I ha rx) (holds_of I hb ry) (by omega) ⟨.bl _, H, I, rfl, q⟩
theorem op_inTL (hu : X.A.units + 64 < cLine) : OpR X (compareOp .In) (rInTL X.K false) := by
  intro pins s σ H x y v u Q I rx ry h
  obtain ⟨α, _, _, a, b, ha, hb, hd, q⟩ := h
  obtain ⟨l, vs, rfl, hl, H2⟩ := PySem.W.list_of_holds (holds_of I hb ry)
  exact PySem.W.in_list_datum hl H2 (holds_of I ha rx) (by omega) ⟨.bl _, H, I, rfl, q⟩
theorem op_notInTL (hu : X.A.units + 64 < cLine) : OpR X (compareOp .NotIn) (rInTL X.K true) := by
  intro pins s σ H x y v u Q I rx ry h
  obtain ⟨α, _, _, a, b, ha, hb, hd, q⟩ := h
  obtain ⟨l, vs, rfl, hl, H2⟩ := PySem.W.list_of_holds (holds_of I hb ry)
  refine PySem.W.notIn_list_datum hl H2 (holds_of I ha rx) (by omega) ⟨.bl _, H, I, ?_, q⟩
  show Value.bool _ = Value.bool _
  simp
theorem op_inTT (hu : X.A.units + 64 < cLine) : OpR X (compareOp .In) (rInTT X.K false) := by
  intro pins s σ H x y v u Q I rx ry h
  obtain ⟨α, _, _, a, b, ha, hb, hd, q⟩ := h
  obtain ⟨l, vs, rfl, hl, H2⟩ := PySem.W.tup_of_holds (holds_of I hb ry)
  exact PySem.W.in_tuple_datum hl H2 (holds_of I ha rx) (by omega) ⟨.bl _, H, I, rfl, q⟩
theorem op_notInTT (hu : X.A.units + 64 < cLine) : OpR X (compareOp .NotIn) (rInTT X.K true) := by
  intro pins s σ H x y v u Q I rx ry h
  obtain ⟨α, _, _, a, b, ha, hb, hd, q⟩ := h
  obtain ⟨l, vs, rfl, hl, H2⟩ := PySem.W.tup_of_holds (holds_of I hb ry)
  refine PySem.W.notIn_tuple_datum hl H2 (holds_of I ha rx) (by omega) ⟨.bl _, H, I, ?_, q⟩
  show Value.bool _ = Value.bool _
  simp
end
end B
/-! B: what a reading evaluates to in a world -/
namespace B
open PySem L2
open Evl (Ex)
open PySem.W (Tup T3 T4 Datum DatumOrd)

/-- later: what stays is as it was, and no more of it is locked -/
structure On (W W' : Wd) : Prop where
  b : Ex W.B W'.B
  l : ∀ a o, W.B a = some o → W.H a = some o → W'.H a = some o
theorem On.refl (W : Wd) : On W W := ⟨Evl.Ex.refl _, fun _ _ _ h => h⟩
theorem On.trans {W W1 W2 : Wd} (x : On W W1) (y : On W1 W2) : On W W2 := ⟨x.b.trans y.b, fun a o h1 h2 => y.l a o (x.b a o h1) (x.l a o h1 h2)⟩
theorem Md.on {S : List Addr} {W W' : Wd} (g : Md S W W') : On W W' := ⟨g.b, g.l⟩
theorem Stp.on {ε : Ef} {W W' : Wd} (g : Stp ε W W') : On W W' := g.md.on

section
variable {α β γ : Type} [Py α] [Py β] [Py γ] {K : Fg} {σ : SS} {W W' : Wd} {v : V} {x : α} {ε : Ef} {S : List Addr}
theorem rep_g (g : Md S W W') (h : rep K W.B v x) : rep K W'.B v x := rex g.b h
theorem rep_s (g : Stp ε W W') (h : rep K W.B v x) : rep K W'.B v x := rex g.md.b h
theorem rep_on (g : On W W') (h : rep K W.B v x) : rep K W'.B v x := rex g.b h
theorem rep_h (h : rep K W.B v x) : rep K W.H v x := Py.mono W.sub h
end
/-- an unlocked dict that stays -/
def DictAt {κ α : Type} [PyKey κ] [Py α] (K : Fg) (W : Wd) (v : V) (d : Dict κ α) : Prop :=
  ∃ a ks, v = .ref a ∧ W.B a = some (.dK ks) ∧ W.H a = some (.dK ks) ∧ KReps K W.B ks d.kv
section
variable {κ α : Type} [PyKey κ] [Py α] {K : Fg} {W W' : Wd} {v : V} {d : Dict κ α} {ε : Ef} {S : List Addr}
theorem DictAt.rep (h : DictAt K W v d) : rep K W.B v d := by
  obtain ⟨a, ks, h1, h2, h3, h4⟩ := h
  exact ⟨a, ks, h1, .inl h2, h4⟩
theorem DictAt.on (g : On W W') (h : DictAt K W v d) : DictAt K W' v d := by
  obtain ⟨a, ks, h1, h2, h3, h4⟩ := h
  exact ⟨a, ks, h1, g.b _ _ h2, g.l _ _ h2 h3, KReps.mono (exExt g.b) h4⟩
theorem DictAt.g (g : Md S W W') (h : DictAt K W v d) : DictAt K W' v d := h.on g.on
theorem DictAt.s (g : Stp ε W W') (h : DictAt K W v d) : DictAt K W' v d := h.on g.on
end

theorem nodup_le {α : Type} [DecidableEq α] : ∀ {l m : List α}, l.Nodup → (∀ x ∈ l, x ∈ m) → l.length ≤ m.length
  | [], _, _, _ => Nat.zero_le _
  | x :: l, m, n, h => by
    rw [List.nodup_cons] at n
    have hx := h x List.mem_cons_self
    have := nodup_le (m := m.erase x) n.2 fun y hy => (List.mem_erase_of_ne (fun (e : y = x) => n.1 (e ▸ hy))).mpr (h y (List.mem_cons_of_mem _ hy))
    rw [List.length_erase_of_mem hx] at this
    have : 0 < m.length := List.length_pos_of_mem hx
    rw [List.length_cons]
    omega
/-! tables -/
section
variable {κ α : Type} [DecidableEq κ]
def klook (kv : List (κ × α)) (k : κ) : Option α := (kv.find? fun q => decide (q.1 = k)).map (·.2)
def kput (kv : List (κ × α)) (k : κ) (v : α) : List (κ × α) := if (kv.any fun q => decide (q.1 = k)) = true then kv.map (fun q => if q.1 = k then (q.1, v) else q) else kv ++ [(k, v)]
def kdrop (kv : List (κ × α)) (k : κ) : List (κ × α) := kv.filter fun q => decide (q.1 ≠ k)
theorem klook_nil {k : κ} : klook ([] : List (κ × α)) k = none := rfl
theorem klook_cons {q : κ × α} {kv : List (κ × α)} {k : κ} : klook (q :: kv) k = if q.1 = k then some q.2 else klook kv k := by
  unfold klook
  rw [List.find?_cons]
  by_cases h : q.1 = k
  · simp [h]
  · simp [h]
theorem klook_none {k : κ} : ∀ {kv : List (κ × α)}, klook kv k = none ↔ k ∉ kv.map (·.1)
  | [] => by simp [klook_nil]
  | q :: kv => by
    rw [klook_cons]
    by_cases h : q.1 = k
    · simp [h]
    · rw [if_neg h, klook_none, List.map_cons, List.mem_cons, not_or]
      exact ⟨fun z => ⟨fun e => h e.symm, z⟩, fun z => z.2⟩
theorem klook_mem {k : κ} {v : α} : ∀ {kv : List (κ × α)}, klook kv k = some v → (k, v) ∈ kv
  | [], h => by simp [klook_nil] at h
  | q :: kv, h => by
    rw [klook_cons] at h
    by_cases e : q.1 = k
    · rw [if_pos e] at h
      have : q = (k, v) := Prod.ext e (Option.some.inj h)
      rw [this]; exact List.mem_cons_self
    · rw [if_neg e] at h; exact List.mem_cons_of_mem _ (klook_mem h)
theorem klook_of_mem {k : κ} {v : α} : ∀ {kv : List (κ × α)}, (kv.map (·.1)).Nodup → (k, v) ∈ kv → klook kv k = some v
  | [], _, h => by simp at h
  | q :: kv, n, h => by
    rw [List.map_cons, List.nodup_cons] at n
    rw [klook_cons]
    rcases List.mem_cons.mp h with e | h
    · rw [← e]; simp
    · have : q.1 ≠ k := fun z => n.1 (List.mem_map.mpr ⟨(k, v), h, z.symm⟩)
      rw [if_neg this]; exact klook_of_mem n.2 h
theorem kput_mem {kv : List (κ × α)} {k : κ} {v : α} {q : κ × α} (h : q ∈ kput kv k v) : q ∈ kv ∨ q = (k, v) := by
  unfold kput at h
  split at h
  · obtain ⟨q', h1, h2⟩ := List.mem_map.mp h
    by_cases e : q'.1 = k
    · rw [if_pos e] at h2; exact .inr (by rw [← h2, e])
    · rw [if_neg e] at h2; exact .inl (h2 ▸ h1)
  · rcases List.mem_append.mp h with h | h
    · exact .inl h
    · exact .inr (by simpa using h)
theorem kput_keys_nodup {kv : List (κ × α)} {k : κ} {v : α} (n : (kv.map (·.1)).Nodup) : ((kput kv k v).map (·.1)).Nodup := by
  unfold kput
  split
  · have : (kv.map (fun q => if q.1 = k then (q.1, v) else q)).map (·.1) = kv.map (·.1) := by
      rw [List.map_map]
      refine List.map_congr_left fun q _ => ?_
      show (if q.1 = k then (q.1, v) else q).1 = q.1
      split <;> rfl
    rw [this]; exact n
  · rename_i h
    rw [List.map_append, List.map_cons, List.map_nil, List.nodup_append]
    refine ⟨n, by simp, fun a ha b hb => ?_⟩
    have e : b = k := by simpa using hb
    subst e
    intro z
    subst z
    obtain ⟨q, h1, h2⟩ := List.mem_map.mp ha
    exact h (List.any_eq_true.mpr ⟨q, h1, by simp [h2]⟩)
theorem kput_len (kv : List (κ × α)) (k : κ) (v : α) : (kput kv k v).length ≤ kv.length + 1 := by
  unfold kput
  split <;> simp
theorem klook_put (kv : List (κ × α)) (k j : κ) (v : α) : klook (kput kv k v) j = if j = k then some v else klook kv j := by
  unfold kput
  by_cases h : (kv.any fun q => decide (q.1 = k)) = true
  · rw [if_pos h]
    have main : ∀ kv : List (κ × α), klook (kv.map (fun q => if q.1 = k then (q.1, v) else q)) j = if j = k then (if k ∈ kv.map (·.1) then some v else none) else klook kv j := by
      intro kv
      induction kv with
      | nil => simp [klook_nil]
      | cons q kv ih =>
        rw [List.map_cons, klook_cons, ih, klook_cons, List.map_cons]
        by_cases e : q.1 = k
        · rw [if_pos e]
          by_cases e2 : j = k
          · subst e2; simp [e]
          · have : ¬ q.1 = j := fun z => e2 (z.symm.trans e)
            simp [e2, this]
        · rw [if_neg e]
          by_cases e2 : j = k
          · subst e2
            have : ¬ j = q.1 := fun z => e z.symm
            rw [if_neg e, if_pos rfl, if_pos rfl]
            by_cases hm : j ∈ kv.map (·.1)
            · rw [if_pos hm, if_pos (List.mem_cons_of_mem _ hm)]
            · rw [if_neg hm, if_neg (fun z => (List.mem_cons.mp z).elim this hm)]
          · simp [e2]
    rw [main]
    obtain ⟨q, h1, h2⟩ := List.any_eq_true.mp h
    have : k ∈ kv.map (·.1) := List.mem_map.mpr ⟨q, h1, of_decide_eq_true h2⟩
    rw [if_pos this]
  · rw [if_neg h]
    have hk : k ∉ kv.map (·.1) := fun z => by
      obtain ⟨q, h1, h2⟩ := List.mem_map.mp z
      exact h (List.any_eq_true.mpr ⟨q, h1, by simp [h2]⟩)
    clear h
    induction kv with
    | nil =>
      rw [List.nil_append, klook_cons, klook_nil]
      by_cases e : j = k
      · simp [e]
      · have : ¬ k = j := fun z => e z.symm
        simp [e, this]
    | cons q kv ih =>
      rw [List.map_cons, List.mem_cons, not_or] at hk
      rw [List.cons_append, klook_cons, ih hk.2, klook_cons]
      by_cases e : q.1 = j
      · have : ¬ j = k := fun z => hk.1 (z.symm.trans e.symm)
        simp [e, this]
      · simp [e]
end
section
variable {κ α : Type} [DecidableEq κ] [PyKey κ] [Py α] {K : Fg} {H : Hp} {ks : List (Key × V)} {kv : List (κ × α)}
theorem key_eq {a b : κ} : (PyKey.key a : Key) = PyKey.key b ↔ a = b := ⟨fun h => PyKey.inj h, fun h => by rw [h]⟩
theorem KReps.any (r : KReps K H ks kv) (k : κ) : (ks.any fun q => decide (q.1 = PyKey.key k)) = kv.any fun q => decide (q.1 = k) := by
  induction r with
  | nil => rfl
  | cons a b ih =>
    rw [List.any_cons, List.any_cons, ih, a.1]
    congr 1
    exact decide_eq_decide.mpr key_eq
theorem KReps.put {v : V} {x : α} (r : KReps K H ks kv) (k : κ) (rv : rep K H v x) : KReps K H (putK ks (PyKey.key k) v) (kput kv k x) := by
  unfold putK kput
  rw [r.any k]
  split
  · rename_i hx
    clear hx
    induction r with
    | nil => exact .nil
    | @cons a b l1 l2 h t ih =>
      rw [List.map_cons, List.map_cons]
      refine .cons ?_ ih
      by_cases e : b.1 = k
      · have : a.1 = PyKey.key k := by rw [h.1, e]
        rw [if_pos e, if_pos this]
        exact ⟨h.1, rv⟩
      · have : ¬ a.1 = PyKey.key k := fun z => e (PyKey.inj (h.1.symm.trans z))
        rw [if_neg e, if_neg this]
        exact h
  · exact Paired.snoc r ⟨rfl, rv⟩
theorem KReps.none (r : KReps K H ks kv) {k : κ} (h : klook kv k = none) : valV ks (PyKey.key k) = none := by
  induction r with
  | nil => rfl
  | @cons a b l1 l2 hh t ih =>
    rw [klook_cons] at h
    by_cases e : b.1 = k
    · rw [if_pos e] at h; cases h
    · rw [if_neg e] at h
      rw [valV_neg (fun z => e (PyKey.inj (hh.1.symm.trans z)))]
      exact ih h
theorem KReps.some (r : KReps K H ks kv) {k : κ} {x : α} (h : klook kv k = some x) : ∃ v, valV ks (PyKey.key k) = some v ∧ rep K H v x := by
  induction r with
  | nil => simp [klook_nil] at h
  | @cons a b l1 l2 hh t ih =>
    rw [klook_cons] at h
    by_cases e : b.1 = k
    · rw [if_pos e] at h
      cases h
      exact ⟨a.2, valV_pos (by rw [hh.1, e]), hh.2⟩
    · rw [if_neg e] at h
      obtain ⟨v, h1, h2⟩ := ih h
      exact ⟨v, by rw [valV_neg (fun z => e (PyKey.inj (hh.1.symm.trans z)))]; exact h1, h2⟩
theorem KReps.drop (r : KReps K H ks kv) (k : κ) : KReps K H (dropK ks (PyKey.key k)) (kdrop kv k) := by
  unfold dropK kdrop
  induction r with
  | nil => exact .nil
  | @cons a b l1 l2 hh t ih =>
    rw [List.filter_cons, List.filter_cons]
    by_cases e : b.1 = k
    · have : a.1 = PyKey.key k := by rw [hh.1, e]
      simp only [e, this, ne_eq, not_true_eq_false, decide_false, Bool.false_eq_true, if_false]
      exact ih
    · have : ¬ a.1 = PyKey.key k := fun z => e (PyKey.inj (hh.1.symm.trans z))
      simp only [e, this, ne_eq, not_false_eq_true, decide_true, if_true]
      exact .cons hh ih
end
/-- what stands at p shall stay -/
def Wd.fix (W : Wd) (p : Addr) (o : HO) (h : W.H p = some o) : Wd := ⟨upd W.B p o, W.H, fun a u e => by
  by_cases q : a = p
  · subst q; rw [upd_same] at e; cases e; exact .inl h
  · rw [upd_ne q] at e; exact W.sub a u e⟩
theorem md_fix {S : List Addr} {W W' : Wd} (g : Md S W W') {p : Addr} {o : HO} (h : W'.H p = some o) (n : W'.B p = none) (f : W.H p = none) : Md S W (W'.fix p o h) := by
  refine ⟨fun a u e => ?_, fun a u e1 e2 => g.l a u e1 e2, g.o, fun a ha => ?_, g.d, g.n⟩
  · have q : a ≠ p := fun z => by rw [z] at e; rw [W.free f] at e; cases e
    show upd W'.B p o a = some u
    rw [upd_ne q]; exact g.b a u e
  · have q : a ≠ p := fun z => ha.ne (by rw [z]; exact f)
    show upd W'.B p o a = W.B a
    rw [upd_ne q]; exact g.m a ha
theorem ex_fix {W : Wd} {p : Addr} {o : HO} (h : W.H p = some o) (n : W.B p = none) : Ex W.B (W.fix p o h).B := fun a u e => by
  have q : a ≠ p := fun z => by rw [z, n] at e; cases e
  show upd W.B p o a = some u
  rw [upd_ne q]; exact e
theorem md_mut {S : List Addr} {W W' : Wd} (g : Md S W W') {p : Addr} {o : HO} (n : W'.B p = none) (f : W.H p = none) : Md S W (W'.put p o n) := by
  refine ⟨g.b, fun a u e1 e2 => ?_, fun a u e1 e2 => ?_, g.m, fun a ha => ?_, fun a ha => ?_⟩
  · have q : a ≠ p := fun z => by rw [z, f] at e2; cases e2
    show upd W'.H p o a = some u
    rw [upd_ne q]; exact g.l a u e1 e2
  · have q : a ≠ p := fun z => by rw [z, f] at e2; cases e2
    show upd W'.H p o a = some u
    rw [upd_ne q]; exact g.o a u e1 e2
  · show upd W'.H p o a ≠ none
    by_cases q : a = p
    · rw [q, upd_same]; exact fun z => by cases z
    · rw [upd_ne q]; exact g.d a ha
  · have q : a ≠ p := fun z => ha.ne (by rw [z]; exact f)
    obtain ⟨u, e, hu⟩ := g.n a ha
    exact ⟨u, (upd_ne q).trans e, hu⟩
/-- what I tells stays where only p, which is none of S, changes -/
theorem i_put {ε : Ef} {W : Wd} {p : Addr} {o : HO} (hS : p ∉ ε.S) (i : ε.I W) (n : W.B p = none) : ε.I (W.put p o n) :=
  ε.mv W _ (Evl.Ex.refl _) (fun a h1 _ => ⟨upd_ne fun e => hS (e ▸ h1), rfl⟩) i
theorem i_fix {ε : Ef} {W : Wd} {p : Addr} {o : HO} (hS : p ∉ ε.S) (i : ε.I W) (h : W.H p = some o) (n : W.B p = none) : ε.I (W.fix p o h) :=
  ε.mv W _ (ex_fix h n) (fun a h1 _ => ⟨rfl, upd_ne fun e => hS (e ▸ h1)⟩) i


/-! ### expressions -/
/-- a value of which P is known -/
def EvP (ε : Ef) (te : TE) (σ : SS) (W : Wd) (P : V → Wd → Prop) : Prop := ∀ W1, Stp ε W W1 → ∀ Q : VK, (∀ v W2, Stp ε W1 W2 → P v W2 → Q v W2.H) → te σ W1.H Q
def EvR {α : Type} [Py α] (ε : Ef) (K : Fg) (te : TE) (σ : SS) (W : Wd) (x : α) : Prop :=
  ∀ W1, Stp ε W W1 → ∀ Q : VK, (∀ v W2, Stp ε W1 W2 → rep K W2.B v x → Q v W2.H) → te σ W1.H Q
/-- a dict that is not locked -/
def EvD {κ α : Type} [PyKey κ] [Py α] (ε : Ef) (K : Fg) (te : TE) (σ : SS) (W : Wd) (d : Dict κ α) : Prop :=
  ∀ W1, Stp ε W W1 → ∀ Q : VK, (∀ v W2, Stp ε W1 W2 → DictAt K W2 v d → Q v W2.H) → te σ W1.H Q
def EvT (ε : Ef) (tt : TT) (σ : SS) (W : Wd) (b : Bool) : Prop :=
  ∀ W1, Stp ε W W1 → ∀ Q : Bool → Hp → Prop, (∀ W2, Stp ε W1 W2 → Q b W2.H) → tt σ W1.H Q
def EvAs {α : Type} [Py α] (ε : Ef) (K : Fg) (ta : TA) (σ : SS) (W : Wd) (xs : List α) : Prop :=
  ∀ W1, Stp ε W W1 → ∀ Q : List V → Hp → Prop, (∀ vs W2, Stp ε W1 W2 → Reps K W2.B vs xs → Q vs W2.H) → ta σ W1.H Q
def EvO (ε : Ef) (to : TO) (σ : SS) (W : Wd) (o : Option Int) : Prop := ∀ W1, Stp ε W W1 → ∀ Q : Option Int → Hp → Prop, (∀ W2, Stp ε W1 W2 → Q o W2.H) → to σ W1.H Q
/-- an operation on values, at any later world -/
def RO {α β γ : Type} [Py α] [Py β] [Py γ] (K : Fg) (r : R2) (x : α) (y : β) (z : γ) : Prop :=
  ∀ v u W1, rep K W1.B v x → rep K W1.B u y → ∀ Q : VK, (∀ w W2, Grow W1 W2 → rep K W2.B w z → Q w W2.H) → r v u W1.H Q
def RU {α β : Type} [Py α] [Py β] (K : Fg) (r : V → Hp → VK → Prop) (x : α) (y : β) : Prop :=
  ∀ v W1, rep K W1.B v x → ∀ Q : VK, (∀ w W2, Grow W1 W2 → rep K W2.B w y → Q w W2.H) → r v W1.H Q
def RC1 {α β : Type} [Py α] [Py β] (K : Fg) (r : List V → Hp → VK → Prop) (x : α) (y : β) : Prop :=
  ∀ v W1, rep K W1.B v x → ∀ Q : VK, (∀ w W2, Grow W1 W2 → rep K W2.B w y → Q w W2.H) → r [v] W1.H Q
def RC2 {α β γ : Type} [Py α] [Py β] [Py γ] (K : Fg) (r : List V → Hp → VK → Prop) (x : α) (y : β) (z : γ) : Prop :=
  ∀ v u W1, rep K W1.B v x → rep K W1.B u y → ∀ Q : VK, (∀ w W2, Grow W1 W2 → rep K W2.B w z → Q w W2.H) → r [v, u] W1.H Q
section
variable {α β γ : Type} [Py α] [Py β] [Py γ] {K : Fg} {σ : SS} {W W' : Wd} {v : V} {x : α} {y : β} {z : γ} {ta tb te : TE} {r : R2} {t u : TT} {ε : Ef}
theorem EvR.p (h : EvR ε K te σ W x) : EvP ε te σ W (fun v W => rep K W.B v x) := h
theorem EvP.toR (h : EvP ε te σ W (fun v W => rep K W.B v x)) : EvR ε K te σ W x := h
theorem EvR.s (g : Stp ε W W') (h : EvR ε K te σ W x) : EvR ε K te σ W' x := fun W1 g1 => h W1 (g.trans g1)
theorem EvT.s {b : Bool} (g : Stp ε W W') (h : EvT ε t σ W b) : EvT ε t σ W' b := fun W1 g1 => h W1 (g.trans g1)
theorem EvR.is {x' : α} (h : EvR ε K te σ W x) (e : x = x') : EvR ε K te σ W x' := e ▸ h
theorem EvT.is {b b' : Bool} (h : EvT ε t σ W b) (e : b = b') : EvT ε t σ W b' := e ▸ h
theorem EvD.rep {κ : Type} [PyKey κ] {d : Dict κ α} (h : EvD ε K te σ W d) : EvR ε K te σ W d := fun W1 g1 Q k => h W1 g1 Q fun v W2 g2 r => k v W2 g2 r.rep
/-- what leaves the heap as it is, whatever the effect around -/
theorem ev_pure (h : ∀ W1, On W W1 → EvR pur K te σ W1 x) : EvR ε K te σ W x := fun W1 g1 Q k => h W1 g1.on W1 (.start trivial) Q fun v W2 g2 r => k v W2 (g1.rf.and g2.pure) r
theorem ev_pureD {κ : Type} [PyKey κ] {d : Dict κ α} (h : ∀ W1, On W W1 → EvD pur K te σ W1 d) : EvD ε K te σ W d := fun W1 g1 Q k => h W1 g1.on W1 (.start trivial) Q fun v W2 g2 r => k v W2 (g1.rf.and g2.pure) r
theorem et_pure {b : Bool} (h : ∀ W1, On W W1 → EvT pur t σ W1 b) : EvT ε t σ W b := fun W1 g1 Q k => h W1 g1.on W1 (.start trivial) Q fun W2 g2 => k W2 (g1.rf.and g2.pure)
theorem ev_var {i : Nat} (h : σ[i]? = some (some v)) (r : rep K W.B v x) : EvR ε K (tVar i) σ W x := fun W1 g1 Q k => ⟨v, h, k v W1 g1.rf (rep_s g1 r)⟩
theorem ev_dvar {κ : Type} [PyKey κ] {d : Dict κ α} {i : Nat} (h : σ[i]? = some (some v)) (r : DictAt K W v d) : EvD ε K (tVar i) σ W d := fun W1 g1 Q k => ⟨v, h, k v W1 g1.rf (r.s g1)⟩
theorem ev_int {n : Int} : EvR ε K (tC (.int n)) σ W n := fun W1 g1 Q k => k _ W1 g1.rf rfl
theorem ev_bl {n : Bool} : EvR ε K (tC (.bl n)) σ W n := fun W1 g1 Q k => k _ W1 g1.rf rfl
theorem ev_str {n : Str} : EvR ε K (tC (.str n)) σ W n := fun W1 g1 Q k => k _ W1 g1.rf rfl
theorem ev_non : EvR ε K (tC .non) σ W () := fun W1 g1 Q k => k _ W1 g1.rf rfl
theorem ev_raw {n : V} : EvR ε K (tC n) σ W (Raw.mk n) := fun W1 g1 Q k => k _ W1 g1.rf rfl
theorem ev_rvar {i : Nat} (h : σ[i]? = some (some v)) : EvR ε K (tVar i) σ W (Raw.mk v) := fun W1 g1 Q k => ⟨v, h, k v W1 g1.rf rfl⟩
theorem ev_op (ha : EvR ε K ta σ W x) (hb : EvR ε K tb σ W y) (hr : RO K r x y z) : EvR ε K (tOp r ta tb) σ W z := fun W1 g1 Q k =>
  ha W1 g1 _ fun a W2 g2 ra => hb W2 (g1.trans g2) _ fun b W3 g3 rb => hr a b W3 (rep_s g3 ra) rb Q fun w W4 g4 rw' => k w W4 ((g2.trans g3).and g4) rw'
theorem ev_un {r : V → Hp → VK → Prop} (ha : EvR ε K ta σ W x) (hr : RU K r x y) : EvR ε K (tUn r ta) σ W y := fun W1 g1 Q k =>
  ha W1 g1 _ fun a W2 g2 ra => hr a W2 ra Q fun w W4 g4 rw' => k w W4 (g2.and g4) rw'
theorem ev_cb1 {r : List V → Hp → VK → Prop} (ha : EvR ε K ta σ W x) (hr : RC1 K r x y) : EvR ε K (tCB r (tCons ta tNil)) σ W y := fun W1 g1 Q k =>
  ha W1 g1 _ fun a W2 g2 ra => hr a W2 ra Q fun w W4 g4 rw' => k w W4 (g2.and g4) rw'
theorem ev_cb2 {r : List V → Hp → VK → Prop} (ha : EvR ε K ta σ W x) (hb : EvR ε K tb σ W y) (hr : RC2 K r x y z) : EvR ε K (tCB r (tCons ta (tCons tb tNil))) σ W z := fun W1 g1 Q k =>
  ha W1 g1 _ fun a W2 g2 ra => hb W2 (g1.trans g2) _ fun b W3 g3 rb => hr a b W3 (rep_s g3 ra) rb Q fun w W4 g4 rw' => k w W4 ((g2.trans g3).and g4) rw'
/-- a value that leaves the heap as it is -/
theorem ro_val (f : ∀ (v u : V) (W1 : Wd), rep K W1.B v x → rep K W1.B u y → ∀ Q : VK, (∀ w, rep K W1.B w z → Q w W1.H) → r v u W1.H Q) : RO K r x y z :=
  fun v u W1 rv ru Q k => f v u W1 rv ru Q fun w rw' => k w W1 (.refl _ _) rw'
theorem ro_I0 {g : Int → Int → Int} {i j : Int} : RO K (rI0 fun i j => .int (g i j)) i j (g i j) := ro_val fun _ _ _ rv ru Q k => ⟨i, j, rv, ru, k _ rfl⟩
theorem ro_B0 {g : Int → Int → Bool} {i j : Int} : RO K (rI0 fun i j => .bl (g i j)) i j (g i j) := ro_val fun _ _ _ rv ru Q k => ⟨i, j, rv, ru, k _ rfl⟩
theorem ro_I {C : Int → Int → Prop} {g : Int → Int → Int} {i j : Int} (hc : C i j) : RO K (rI C fun i j => .int (g i j)) i j (g i j) := ro_val fun _ _ _ rv ru Q k => ⟨i, j, rv, ru, hc, k _ rfl⟩
theorem ru_neg {i : Int} : RU K (rU fun i => .int (-i)) i (-i) := fun v W1 rv Q k => ⟨i, rv, k _ W1 (.refl _ _) rfl⟩
theorem ro_eqI {i j : Int} : RO K rEq i j (decide (i = j)) := ro_val fun v u _ rv ru Q k => by
  have e1 : v = .int i := rv
  have e2 : u = .int j := ru
  subst e1; subst e2
  refine ⟨rfl, k _ ?_⟩
  show V.bl _ = V.bl _
  congr 1
  simp
theorem ro_neI {i j : Int} : RO K rNe i j (!decide (i = j)) := ro_val fun v u _ rv ru Q k => by
  have e1 : v = .int i := rv
  have e2 : u = .int j := ru
  subst e1; subst e2
  refine ⟨rfl, k _ ?_⟩
  show V.bl _ = V.bl _
  congr 1
  simp
theorem ro_eqS {i j : Str} : RO K rEq i j (decide (i = j)) := ro_val fun v u _ rv ru Q k => by
  have e1 : v = .str i := rv
  have e2 : u = .str j := ru
  subst e1; subst e2
  refine ⟨rfl, k _ ?_⟩
  show V.bl _ = V.bl _
  congr 1
  simp
theorem ro_neS {i j : Str} : RO K rNe i j (!decide (i = j)) := ro_val fun v u _ rv ru Q k => by
  have e1 : v = .str i := rv
  have e2 : u = .str j := ru
  subst e1; subst e2
  refine ⟨rfl, k _ ?_⟩
  show V.bl _ = V.bl _
  congr 1
  simp
theorem ro_eqB {i j : Bool} : RO K rEq i j (decide (i = j)) := ro_val fun v u _ rv ru Q k => by
  have e1 : v = .bl i := rv
  have e2 : u = .bl j := ru
  subst e1; subst e2
  refine ⟨rfl, k _ ?_⟩
  show V.bl _ = V.bl _
  congr 1
  simp
theorem ro_neB {i j : Bool} : RO K rNe i j (!decide (i = j)) := ro_val fun v u _ rv ru Q k => by
  have e1 : v = .bl i := rv
  have e2 : u = .bl j := ru
  subst e1; subst e2
  refine ⟨rfl, k _ ?_⟩
  show V.bl _ = V.bl _
  congr 1
  simp
/-! places -/
theorem atI_ix {ζ : Type} {xs : List ζ} {i : Int} {v : ζ} (h : atI xs i = some v) : ∃ j, ixN xs.length i = some j ∧ xs[j]? = some v := by
  unfold atI at h
  cases e : ixN xs.length i with
  | none => rw [e] at h; cases h
  | some j => rw [e] at h; exact ⟨j, rfl, h⟩
theorem reps_at {vs : List V} {xs : List α} {H : Hp} {i : Int} (h : Reps K H vs xs) (e : atI xs i = some x) : ∃ v, atI vs i = some v ∧ rep K H v x := by
  obtain ⟨j, e1, e2⟩ := atI_ix e
  obtain ⟨v, h1, h2⟩ := Reps.get' h e2
  refine ⟨v, ?_, h2⟩
  unfold atI
  rw [Reps.len h, e1]
  exact h1
theorem ro_ixL {xs : List α} {i : Int} (h : atI xs i = some x) : RO K (rIxL K) xs i x := ro_val fun v u W1 rv ru Q k => by
  obtain ⟨a, vs, e1, s, r⟩ := rv
  have e2 : u = .int i := ru
  subst e1; subst e2
  obtain ⟨w, h1, h2⟩ := reps_at r h
  exact ⟨a, vs, i, w, rfl, rfl, SqL.of (W1.sub.el s), h1, k w h2⟩
theorem ro_ixT {xs : Tup α} {i : Int} (h : atI xs.items i = some x) : RO K (rIxT K) xs i x := ro_val fun v u W1 rv ru Q k => by
  obtain ⟨a, vs, e1, s, r⟩ := rv
  have e2 : u = .int i := ru
  subst e1; subst e2
  obtain ⟨w, h1, h2⟩ := reps_at r h
  exact ⟨a, vs, i, w, rfl, rfl, SqT.of (W1.sub.et s), h1, k w h2⟩
theorem ro_ixP0 {p : α × β} : RO K (rIxT K) p (0 : Int) p.1 := ro_val fun v u W1 rv ru Q k => by
  obtain ⟨a, x, y, e1, s, r1, r2⟩ := rv
  have e2 : u = .int 0 := ru
  subst e1; subst e2
  exact ⟨a, _, 0, x, rfl, rfl, SqT.of (W1.sub.et s), rfl, k x r1⟩
theorem ro_ixP1 {p : α × β} : RO K (rIxT K) p (1 : Int) p.2 := ro_val fun v u W1 rv ru Q k => by
  obtain ⟨a, x, y, e1, s, r1, r2⟩ := rv
  have e2 : u = .int 1 := ru
  subst e1; subst e2
  exact ⟨a, _, 1, y, rfl, rfl, SqT.of (W1.sub.et s), rfl, k y r2⟩
theorem ro_eqT [DecidableEq α] [Datum α] [PyD α] {x y : α} (hd : Datum.depth α ≤ 60) : RO K (rEqT K false) x y (decide (x = y)) := ro_val fun v u W1 rv ru Q k => ⟨α, _, _, x, y, PyD.dp (rep_h rv), PyD.dp (rep_h ru), hd, k _ rfl⟩
theorem ro_neT [DecidableEq α] [Datum α] [PyD α] {x y : α} (hd : Datum.depth α ≤ 60) : RO K (rEqT K true) x y (!decide (x = y)) := ro_val fun v u W1 rv ru Q k => ⟨α, _, _, x, y, PyD.dp (rep_h rv), PyD.dp (rep_h ru), hd, k _ rfl⟩
theorem ro_ltT [DecidableEq α] [DatumOrd α] [PyD α] {x y : α} (hd : Datum.depth α ≤ 60) : RO K (rLtT K) x y (DatumOrd.lt x y) := ro_val fun v u W1 rv ru Q k => ⟨α, _, _, x, y, PyD.dp (rep_h rv), PyD.dp (rep_h ru), hd, k _ rfl⟩
theorem ro_inL [DecidableEq α] [Datum α] [PyD α] {x : α} {y : List α} (hd : Datum.depth α ≤ 60) : RO K (rInTL K false) x y (decide (x ∈ y)) := ro_val fun v u W1 rv ru Q k => ⟨α, _, _, x, y, PyD.dp (rep_h rv), PyD.dp (rep_h ru), hd, k _ rfl⟩
theorem ro_ninL [DecidableEq α] [Datum α] [PyD α] {x : α} {y : List α} (hd : Datum.depth α ≤ 60) : RO K (rInTL K true) x y (!decide (x ∈ y)) := ro_val fun v u W1 rv ru Q k => ⟨α, _, _, x, y, PyD.dp (rep_h rv), PyD.dp (rep_h ru), hd, k _ rfl⟩
theorem ro_inT [DecidableEq α] [Datum α] [PyD α] {x : α} {y : Tup α} (hd : Datum.depth α ≤ 60) : RO K (rInTT K false) x y (decide (x ∈ y.items)) := ro_val fun v u W1 rv ru Q k => ⟨α, _, _, x, y, PyD.dp (rep_h rv), PyD.dp (rep_h ru), hd, k _ rfl⟩
theorem ro_ninT [DecidableEq α] [Datum α] [PyD α] {x : α} {y : Tup α} (hd : Datum.depth α ≤ 60) : RO K (rInTT K true) x y (!decide (x ∈ y.items)) := ro_val fun v u W1 rv ru Q k => ⟨α, _, _, x, y, PyD.dp (rep_h rv), PyD.dp (rep_h ru), hd, k _ rfl⟩
/-- a new list that may change -/
def EvN (ε : Ef) (K : Fg) (te : TE) (σ : SS) (W : Wd) (xs : List α) : Prop :=
  ∀ W1, Stp ε W W1 → ∀ Q : VK, (∀ p vs W2, Stp ε W1 W2 → W1.H p = none → W2.B p = none → W2.H p = some (.lst vs) → Reps K W2.B vs xs → Q (.ref p) W2.H) → te σ W1.H Q
theorem Stp.fix {W W' : Wd} (g : Stp ε W W') {p : Addr} {o : HO} (f : W.H p = none) (i : ε.I W) (h : W'.H p = some o) (n : W'.B p = none) : Stp ε W (W'.fix p o h) :=
  ⟨md_fix g.md h n f, i_fix (Ef.off i f) g.i h n⟩
theorem EvN.toR {xs : List α} (h : EvN ε K te σ W xs) : EvR ε K te σ W xs := fun W1 g1 Q k => h W1 g1 Q fun p vs W2 g2 f n e r =>
  k _ (W2.fix p _ e) (g2.fix f g1.i e n) ⟨p, vs, rfl, upd_same, Reps.mono (exExt (ex_fix e n)) r⟩
/-! displays -/
theorem ea_nil : EvAs ε K tNil σ W ([] : List α) := fun W1 g1 Q k => k [] W1 g1.rf .nil
theorem ea_cons {tr : TA} {xs : List α} (h : EvR ε K ta σ W x) (hr : EvAs ε K tr σ W xs) : EvAs ε K (tCons ta tr) σ W (x :: xs) := fun W1 g1 Q k =>
  h W1 g1 _ fun a W2 g2 ra => hr W2 (g1.trans g2) _ fun vs W3 g3 rs => k (a :: vs) W3 (g2.trans g3) (.cons (rep_s g3 ra) rs)
theorem ev_lst {ta : TA} {xs : List α} (h : EvAs ε K ta σ W xs) (hl : xs.length ≤ 100000) : EvR ε K (tLst ta) σ W xs := fun W1 g1 Q k =>
  h W1 g1 _ fun vs W2 g2 rs => ⟨Evl.sz_of (by rw [Reps.len rs]; exact hl), fun p hp => k _ (W2.add p (.lst vs)) (g2.and (W2.grow_add hp)) ⟨p, vs, rfl, upd_same, Reps.mono (exExt (W2.grow_add hp).b) rs⟩⟩
theorem en_lst {ta : TA} {xs : List α} (h : EvAs ε K ta σ W xs) (hl : xs.length ≤ 100000) : EvN ε K (tLst ta) σ W xs := fun W1 g1 Q k =>
  h W1 g1 _ fun vs W2 g2 rs => ⟨Evl.sz_of (by rw [Reps.len rs]; exact hl), fun p hp => k p vs (W2.put p (.lst vs) (W2.free hp)) (g2.and (W2.grow_put hp)) (by
    cases e : W1.H p with
    | none => rfl
    | some o => exact absurd hp (g2.md.d p (by rw [e]; exact fun z => by cases z))) (W2.free hp) upd_same rs⟩
theorem ev_tupN {ta : TA} {xs : List α} (h : EvAs ε K ta σ W xs) (hl : xs.length ≤ 100000) : EvR ε K (tTup ta) σ W (Tup.mk xs) := fun W1 g1 Q k =>
  h W1 g1 _ fun vs W2 g2 rs => ⟨Evl.sz_of (by rw [Reps.len rs]; exact hl), fun p hp => k _ (W2.add p (.tup vs)) (g2.and (W2.grow_add hp)) ⟨p, vs, rfl, upd_same, Reps.mono (exExt (W2.grow_add hp).b) rs⟩⟩
theorem ev_pair (ha : EvR ε K ta σ W x) (hb : EvR ε K tb σ W y) : EvR ε K (tTup (tCons ta (tCons tb tNil))) σ W (x, y) := fun W1 g1 Q k =>
  ha W1 g1 _ fun a W2 g2 ra => hb W2 (g1.trans g2) _ fun b W3 g3 rb => ⟨Evl.sz_of (by show 2 ≤ 100000; decide), fun p hp =>
    k _ (W3.add p (.tup [a, b])) ((g2.trans g3).and (W3.grow_add hp)) ⟨p, a, b, rfl, upd_same, rep_g (W3.grow_add hp) (rep_s g3 ra), rep_g (W3.grow_add hp) rb⟩⟩
theorem ev_t3 {tc : TE} (ha : EvR ε K ta σ W x) (hb : EvR ε K tb σ W y) (hc : EvR ε K tc σ W z) : EvR ε K (tTup (tCons ta (tCons tb (tCons tc tNil)))) σ W (T3.mk x y z) := fun W1 g1 Q k =>
  ha W1 g1 _ fun a W2 g2 ra => hb W2 (g1.trans g2) _ fun b W3 g3 rb => hc W3 ((g1.trans g2).trans g3) _ fun c W4 g4 rc => ⟨Evl.sz_of (by show 3 ≤ 100000; decide), fun p hp =>
    k _ (W4.add p (.tup [a, b, c])) (((g2.trans g3).trans g4).and (W4.grow_add hp)) ⟨p, a, b, c, rfl, upd_same, rep_g (W4.grow_add hp) (rep_s g4 (rep_s g3 ra)), rep_g (W4.grow_add hp) (rep_s g4 rb), rep_g (W4.grow_add hp) rc⟩⟩
/-! tests -/
theorem et_test {b : Bool} (h : EvR ε K te σ W b) : EvT ε (tTest te) σ W b := fun W1 g1 Q k => h W1 g1 _ fun v W2 g2 r => ⟨b, r, k W2 g2⟩
theorem et_B {b : Bool} (h : EvR ε K te σ W b) : EvT ε (tB te) σ W b := fun W1 g1 Q k => h W1 g1 _ fun v W2 g2 r => ⟨b, r, k W2 g2⟩
theorem et_and {a b : Bool} (h1 : EvT ε t σ W a) (h2 : a = true → EvT ε u σ W b) : EvT ε (tAnd t u) σ W (a && b) := fun W1 g1 Q k => h1 W1 g1 _ fun W2 g2 => by
  cases a with
  | false => exact k W2 g2
  | true => exact h2 rfl W2 (g1.trans g2) _ fun W3 g3 => k W3 (g2.trans g3)
theorem et_or {a b : Bool} (h1 : EvT ε t σ W a) (h2 : a = false → EvT ε u σ W b) : EvT ε (tOr t u) σ W (a || b) := fun W1 g1 Q k => h1 W1 g1 _ fun W2 g2 => by
  cases a with
  | true => exact k W2 g2
  | false => exact h2 rfl W2 (g1.trans g2) _ fun W3 g3 => k W3 (g2.trans g3)
theorem et_not {a : Bool} (h1 : EvT ε t σ W a) : EvT ε (tNot t) σ W (!a) := fun W1 g1 Q k => h1 W1 g1 _ fun W2 g2 => k W2 g2
theorem ev_andV {a b : Bool} (h1 : EvR ε K ta σ W a) (h2 : a = true → EvR ε K tb σ W b) : EvR ε K (tAndV ta tb) σ W (a && b) := fun W1 g1 Q k => h1 W1 g1 _ fun v W2 g2 r => ⟨a, r, by
  cases a with
  | false => exact k _ W2 g2 rfl
  | true => exact h2 rfl W2 (g1.trans g2) _ fun v W3 g3 r => k v W3 (g2.trans g3) r⟩
theorem ev_orV {a b : Bool} (h1 : EvR ε K ta σ W a) (h2 : a = false → EvR ε K tb σ W b) : EvR ε K (tOrV ta tb) σ W (a || b) := fun W1 g1 Q k => h1 W1 g1 _ fun v W2 g2 r => ⟨a, r, by
  cases a with
  | true => exact k _ W2 g2 rfl
  | false => exact h2 rfl W2 (g1.trans g2) _ fun v W3 g3 r => k v W3 (g2.trans g3) r⟩
theorem ev_notV {a : Bool} (h1 : EvR ε K ta σ W a) : EvR ε K (tNotV ta) σ W (!a) := fun W1 g1 Q k => h1 W1 g1 _ fun v W2 g2 r => ⟨a, r, k _ W2 g2 rfl⟩
theorem ev_if {b : Bool} {x' : α} (h : EvT ε t σ W b) (h1 : b = true → EvR ε K ta σ W x) (h2 : b = false → EvR ε K tb σ W x') : EvR ε K (tIf t ta tb) σ W (if b then x else x') := fun W1 g1 Q k => h W1 g1 _ fun W2 g2 => by
  cases b with
  | true => exact h1 rfl W2 (g1.trans g2) _ fun v W3 g3 r => k v W3 (g2.trans g3) r
  | false => exact h2 rfl W2 (g1.trans g2) _ fun v W3 g3 r => k v W3 (g2.trans g3) r
/-! calls of built-ins -/
def rMin2 : List V → Hp → VK → Prop := fun xs H Q => ∃ i j, xs = [.int i, .int j] ∧ Q (.int (if j < i then j else i)) H
def rMax2 : List V → Hp → VK → Prop := fun xs H Q => ∃ i j, xs = [.int i, .int j] ∧ Q (.int (if j > i then j else i)) H
def rAbs : List V → Hp → VK → Prop := fun xs H Q => ∃ i, xs = [.int i] ∧ Q (.int (if i < 0 then -i else i)) H
def rLen (K : Fg) : List V → Hp → VK → Prop := fun xs H Q => ∃ p ys, xs = [.ref p] ∧ (SqL K H p ys ∨ SqT K H p ys) ∧ Q (.int ys.length) H
def rLenS : List V → Hp → VK → Prop := fun xs H Q => ∃ z, xs = [.str z] ∧ z.length ≤ sizeLine ∧ Q (.int z.length) H
def rListO (K : Fg) : List V → Hp → VK → Prop := fun xs H Q => ∃ p ys, xs = [.ref p] ∧ (SqL K H p ys ∨ SqT K H p ys) ∧ ∀ l, H l = none → Q (.ref l) (upd H l (.lst ys))
def rDictC : List V → Hp → VK → Prop := fun xs H Q => ∃ a kvs, xs = [.ref a] ∧ Rd H a (.dK kvs) ∧ ∀ p, H p = none → Q (.ref p) (upd H p (.dK kvs))
section
variable {X : Cx}
theorem cr_min2 (hc : X.calm = true) : CallR X (.builtin "min") rMin2 := call_min2 hc
theorem cr_max2 (hc : X.calm = true) : CallR X (.builtin "max") rMax2 := call_max2 hc
theorem cr_abs : CallR X (.builtin "abs") rAbs := call_abs
theorem cr_len : CallR X (.builtin "len") (rLen X.K) := call_len_seq
theorem cr_lenS : CallR X (.builtin "len") rLenS := call_len_str
theorem cr_listO : CallR X (.type "list") (rListO X.K) := call_list_of
theorem cr_dictC : CallR X (.type "dict") rDictC := by
  intro pins s σ H xs us Q I r h
  obtain ⟨a, kvs, rfl, rd, k⟩ := h
  cases r with
  | cons r rr =>
    cases rr
    cases r
    exact d_copyOf I rd fun p s' hp I' => ⟨.ref p, _, I', rfl, k p hp⟩
end
theorem rc_min2 {i j : Int} : RC2 K rMin2 i j (if j < i then j else i) := fun v u W1 rv ru Q k => ⟨i, j, by rw [show v = _ from rv, show u = _ from ru], k _ W1 (.refl _ _) rfl⟩
theorem rc_max2 {i j : Int} : RC2 K rMax2 i j (if j > i then j else i) := fun v u W1 rv ru Q k => ⟨i, j, by rw [show v = _ from rv, show u = _ from ru], k _ W1 (.refl _ _) rfl⟩
theorem rc_abs {i : Int} : RC1 K rAbs i (if i < 0 then -i else i) := fun v W1 rv Q k => ⟨i, by rw [show v = _ from rv], k _ W1 (.refl _ _) rfl⟩
theorem rc_len {xs : List α} : RC1 K (rLen K) xs (xs.length : Int) := fun v W1 ⟨a, vs, e, s, r⟩ Q k => ⟨a, vs, by rw [e], .inl (SqL.of (W1.sub.el s)), by
  rw [Reps.len r]; exact k _ W1 (.refl _ _) rfl⟩
theorem rc_lenT {xs : Tup α} : RC1 K (rLen K) xs (xs.items.length : Int) := fun v W1 ⟨a, vs, e, s, r⟩ Q k => ⟨a, vs, by rw [e], .inr (SqT.of (W1.sub.et s)), by
  rw [Reps.len r]; exact k _ W1 (.refl _ _) rfl⟩
theorem rc_lenS {x : Str} (h : x.length ≤ 100000) : RC1 K rLenS x (x.length : Int) := fun v W1 e Q k => ⟨x, by rw [show v = _ from e], Evl.sz_of h, k _ W1 (.refl _ _) rfl⟩
theorem rc_list {xs : List α} : RC1 K (rListO K) xs xs := fun v W1 ⟨a, vs, e, s, r⟩ Q k => ⟨a, vs, by rw [e], .inl (SqL.of (W1.sub.el s)), fun l hl =>
  k _ (W1.add l (.lst vs)) (W1.grow_add hl) ⟨l, vs, rfl, upd_same, Reps.mono (exExt (W1.grow_add hl).b) r⟩⟩
theorem rc_listT {xs : Tup α} : RC1 K (rListO K) xs xs.items := fun v W1 ⟨a, vs, e, s, r⟩ Q k => ⟨a, vs, by rw [e], .inr (SqT.of (W1.sub.et s)), fun l hl =>
  k _ (W1.add l (.lst vs)) (W1.grow_add hl) ⟨l, vs, rfl, upd_same, Reps.mono (exExt (W1.grow_add hl).b) r⟩⟩
theorem rc_sum {xs : List Int} : RC1 K (rSum K) xs xs.sum := fun v W1 ⟨a, vs, e, s, r⟩ Q k => ⟨a, xs, by rw [e], by rw [← reps_int r]; exact SqL.of (W1.sub.el s), k _ W1 (.refl _ _) rfl⟩
/-- sorted: whatever stands in order with the same items -/
theorem rc_sortedI {xs ys : List Int} (hp : ys.Perm xs) (ho : ys.Pairwise (· ≤ ·)) : RC1 K (rSortedI K) xs ys := fun v W1 ⟨a, vs, e, s, r⟩ Q k => ⟨a, xs, by rw [e], by rw [← reps_int r]; exact SqL.of (W1.sub.el s), fun ns' p h1 h2 hp0 => by
  have e2 : ns' = ys := (h1.trans hp.symm).eq_of_pairwise (fun a b _ _ h h' => Int.le_antisymm h h') h2 ho
  subst e2
  exact k _ (W1.add p _) (W1.grow_add hp0) ⟨p, _, rfl, upd_same, int_reps _⟩⟩
theorem rc_all {xs : List Bool} : RC1 K (rAll K) xs (xs.all id) := fun v W1 ⟨a, vs, e, s, r⟩ Q k => ⟨a, xs, by rw [e], by rw [← reps_bl r]; exact SqL.of (W1.sub.el s), k _ W1 (.refl _ _) rfl⟩
theorem rc_any {xs : List Bool} : RC1 K (rAny K) xs (xs.any id) := fun v W1 ⟨a, vs, e, s, r⟩ Q k => ⟨a, xs, by rw [e], by rw [← reps_bl r]; exact SqL.of (W1.sub.el s), k _ W1 (.refl _ _) rfl⟩
/-- isinstance of one built-in class -/
theorem rc_isi {c a : String} {b : Bool} (ht : ∀ (W1 : Wd) v, rep K W1.B v x → TyX K W1.H v (.type a)) (hk : kitB a c = some b) : RC2 K (rIsi K) x (Raw.mk (.ty c)) b := fun v u W1 rv ru Q k =>
  ⟨v, u, .type a, .type c, b, by rw [show u = _ from ru], by rw [show u = _ from ru]; exact .ty c, ht W1 v rv, kit_ty hk, k _ W1 (.refl _ _) rfl⟩
theorem ty_int {i : Int} (W1 : Wd) (v : V) (h : rep K W1.B v i) : TyX K W1.H v (.type "int") := by rw [show v = _ from h]; exact .base (.int i)
theorem ty_str {i : Str} (W1 : Wd) (v : V) (h : rep K W1.B v i) : TyX K W1.H v (.type "str") := by rw [show v = _ from h]; exact .base (.str i)
theorem ty_bl {i : Bool} (W1 : Wd) (v : V) (h : rep K W1.B v i) : TyX K W1.H v (.type "bool") := by rw [show v = _ from h]; exact .base (.bl i)
theorem ty_non (W1 : Wd) (v : V) (h : rep K W1.B v ()) : TyX K W1.H v (.type "NoneType") := by rw [show v = _ from h]; exact .base .non
/-- {} -/
theorem ed_new {κ : Type} [PyKey κ] : EvD ε K tDNewK σ W (⟨[]⟩ : Dict κ α) := fun W1 g1 Q k p hp => k _ (W1.add p (.dK [])) (g1.rf.and (W1.grow_add hp)) ⟨p, [], rfl, upd_same, upd_same, .nil⟩
/-- dict(d) -/
theorem ed_copy {κ : Type} [PyKey κ] {d : Dict κ α} (h : EvR ε K te σ W d) : EvD ε K (tCB rDictC (tCons te tNil)) σ W d := fun W1 g1 Q k => h W1 g1 _ fun v W2 g2 ⟨a, ks, e, rd, r⟩ =>
  ⟨a, ks, by rw [e], W2.sub.rd rd, fun p hp => k _ (W2.add p (.dK ks)) (g2.and (W2.grow_add hp)) ⟨p, ks, rfl, upd_same, upd_same, KReps.mono (exExt (W2.grow_add hp).b) r⟩⟩
/-- list(d.items()) of an unlocked dict -/
theorem ev_listItems {κ : Type} [PyKV κ] {d : Dict κ α} (h : EvD ε K te σ W d) : EvR ε K (LiI.tListItems te) σ W d.kv := fun W1 g1 Q k => h W1 g1 _ fun v W2 g2 ⟨a, ks, e, hB, hH, r⟩ => by
  refine ⟨a, ks, e, hH, fun H' p ts hx hp hts hpt hl hpr => ?_⟩
  -- the new world
  let B' : Hp := fun b => match W2.B b with
    | some o => some o
    | none => if b = p then H' p else if b ∈ ts then H' b else none
  have hB' : ∀ b o, W2.B b = some o → B' b = some o := fun b o q => by show (match W2.B b with | some o => some o | none => _) = some o; rw [q]
  have hnew : ∀ b, W2.H b = none → B' b = (if b = p then H' p else if b ∈ ts then H' b else none) := fun b q => by
    show (match W2.B b with | some o => some o | none => _) = _
    rw [W2.free q]
  have sub : Ext B' H' := fun b o q => by
    cases e2 : W2.B b with
    | some o' =>
      have : B' b = some o' := hB' b o' e2
      rw [this] at q; cases q
      rcases W2.sub b o e2 with h1 | ⟨h0, ob, h1⟩
      · exact .inl (hx b o h1)
      · exact .inr ⟨h0, ob, hx b _ h1⟩
    | none =>
      have : B' b = (if b = p then H' p else if b ∈ ts then H' b else none) := by
        show (match W2.B b with | some o => some o | none => _) = _
        rw [e2]
      rw [this] at q
      by_cases z : b = p
      · rw [if_pos z] at q; rw [z]; exact .inl q
      · rw [if_neg z] at q
        by_cases z2 : b ∈ ts
        · rw [if_pos z2] at q; exact .inl q
        · rw [if_neg z2] at q; cases q
  let W3 : Wd := ⟨B', H', sub⟩
  have gr : Grow W2 W3 := .mk hB' hx fun b hb => by
    show B' b = W2.B b
    cases e2 : W2.B b with
    | some o' => exact hB' b o' e2
    | none =>
      have : B' b = (if b = p then H' p else if b ∈ ts then H' b else none) := by
        show (match W2.B b with | some o => some o | none => _) = _
        rw [e2]
      rw [this, if_neg (fun z => hb.ne (by rw [z]; exact hp)), if_neg (fun z => hb.ne (hts b z))]
  refine k _ W3 (g2.and gr) ⟨p, ts.map V.ref, rfl, by show B' p = _; rw [hnew p hp, if_pos rfl]; exact hl, ?_⟩
  have r3 : KReps K W3.B ks d.kv := KReps.mono (exExt gr.b) r
  clear k
  have hts' : ∀ t ∈ ts, B' t = H' t := fun t ht => by
    rw [hnew t (hts t ht), if_neg (fun z => hpt (by rw [← z]; exact ht)), if_pos ht]
  have main : ∀ (ts : List Addr) (ks : List (Key × V)) (kv : List (κ × α)), (∀ t ∈ ts, B' t = H' t) → Paired (fun (t : Addr) (q : Key × V) => H' t = some (.tup [kV q.1, q.2])) ts ks → KReps K B' ks kv → Reps K B' (ts.map V.ref) kv := by
    intro ts
    induction ts with
    | nil => intro ks kv _ a b; cases a; cases b; exact .nil
    | cons t ts ih =>
      intro ks kv h a b
      cases a with
      | cons a1 a2 =>
        cases b with
        | cons b1 b2 =>
          refine .cons ⟨t, _, _, rfl, (h t List.mem_cons_self).trans a1, ?_, b1.2⟩ (ih _ _ (fun t' ht' => h t' (List.mem_cons_of_mem _ ht')) a2 b2)
          rw [b1.1]
          exact PyKV.krep _ _ _
  exact main ts ks d.kv hts' hpr r3
/-! slices -/
def cutL (xs : List α) (lo hi : Option Int) : List α := (xs.drop (HT.sIx xs.length 0 lo)).take (HT.sIx xs.length xs.length hi - HT.sIx xs.length 0 lo)
theorem eo_none : EvO ε tNoPart σ W none := fun W1 g1 Q k => k W1 g1.rf
theorem eo_some {i : Int} (h : EvR ε K te σ W i) : EvO ε (tPart te) σ W (some i) := fun W1 g1 Q k => h W1 g1 _ fun v W2 g2 r => ⟨i, r, k W2 g2⟩
theorem ev_slL {tl th : TO} {xs : List α} {lo hi : Option Int} (h : EvR ε K te σ W xs) (h1 : EvO ε tl σ W lo) (h2 : EvO ε th σ W hi) : EvR ε K (tSl (rSlL K) te tl th) σ W (cutL xs lo hi) := fun W1 g1 Q k =>
  h W1 g1 _ fun v W2 g2 rx => h1 W2 (g1.trans g2) _ fun W3 g3 => h2 W3 ((g1.trans g2).trans g3) _ fun W4 g4 => by
    obtain ⟨a, vs, e, s, r⟩ := rep_s g4 (rep_s g3 rx)
    refine ⟨a, vs, e, SqL.of (W4.sub.el s), fun p hp => k _ (W4.add p _) (((g2.trans g3).trans g4).and (W4.grow_add hp)) ⟨p, _, rfl, upd_same, Reps.mono (exExt (W4.grow_add hp).b) ?_⟩⟩
    unfold cutV cutL
    rw [Reps.len r]
    exact Reps.take _ (Reps.drop _ r)
theorem ev_revL {xs : List α} (h : EvR ε K te σ W xs) : EvR ε K (tRevL K te) σ W xs.reverse := fun W1 g1 Q k => h W1 g1 _ fun v W2 g2 ⟨a, vs, e, s, r⟩ =>
  ⟨a, vs, e, SqL.of (W2.sub.el s), fun p hp => k _ (W2.add p _) (g2.and (W2.grow_add hp)) ⟨p, _, rfl, upd_same, Reps.mono (exExt (W2.grow_add hp).b) (Reps.rev r)⟩⟩
end

/-! ### what is walked -/
/-- J walks xs in every world that S tells -/
structure Src {α : Type} [Py α] (K : Fg) (J : It) (S : Wd → Prop) (xs : List α) : Prop where
  go : ∀ i W', S W' → i < xs.length → J.go i W'.H
  yld : ∀ i W' v H'', S W' → i < xs.length → J.yld i W'.H v H'' → ∃ x W'', W''.H = H'' ∧ Grow W' W'' ∧ xs[i]? = some x ∧ rep K W''.B v x
  stop : ∀ i W', S W' → xs.length ≤ i → J.stop i W'.H
def EvI {α : Type} [Py α] (ε : Ef) (K : Fg) (wi : TI) (σ : SS) (W : Wd) (xs : List α) : Prop :=
  ∀ W1, Stp ε W W1 → ∀ R : It → Hp → Prop, (∀ J S W2, Stp ε W1 W2 → S W2 → (∀ W W', S W → Stp ε W W' → S W') → Src K J S xs → R J W2.H) → wi σ W1.H R
def EvJ {α : Type} [Py α] (ε : Ef) (K : Fg) (wi : TI) (σ : SS) (W : Wd) (xs : List α) : Prop :=
  ∀ W1, Stp ε W W1 → ∀ R : It → Hp → Prop, (∀ J W2, Stp ε W1 W2 → Src K J (On W2) xs → R J W2.H) → wi σ W1.H R
section
variable {α β γ : Type} [Py α] [Py β] [Py γ] {K : Fg} {σ : SS} {W W' : Wd} {v : V} {te ta tb : TE} {wi : TI} {ε : Ef}
theorem EvJ.i {xs : List α} (h : EvJ ε K wi σ W xs) : EvI ε K wi σ W xs := fun W1 g1 R k => h W1 g1 R fun J W2 g2 s => k J (On W2) W2 g2 (.refl _) (fun _ _ a b => a.trans b.on) s
theorem ei_list {xs : List α} (h : EvR ε K te σ W xs) : EvJ ε K (iList K te) σ W xs := fun W1 g1 R k => h W1 g1 _ fun v W2 g2 ⟨a, vs, e, s, r⟩ =>
  ⟨a, e, ⟨vs, SqL.of (W2.sub.el s)⟩, k (Itl K a) W2 g2 ⟨fun i W' o hi => by
      obtain ⟨x, hx⟩ : ∃ x, xs[i]? = some x := ⟨xs[i], by simp [hi]⟩
      obtain ⟨v, h1, _⟩ := Reps.get' r hx
      exact ⟨vs, v, SqL.of (W'.sub.el (o.b _ _ s)), h1⟩,
    fun i W' v H'' o hi ⟨e1, e2⟩ => by
      obtain ⟨x, h1, h2⟩ := Reps.get r (e2 vs (SqL.of (W'.sub.el (o.b _ _ s))))
      exact ⟨x, W', e1.symm, .refl _ _, h1, rex o.b h2⟩,
    fun i W' o hi => ⟨vs, SqL.of (W'.sub.el (o.b _ _ s)), by rw [Reps.len r]; exact hi⟩⟩⟩
theorem ei_tup {xs : Tup α} (h : EvR ε K te σ W xs) : EvJ ε K (iTup K te) σ W xs.items := fun W1 g1 R k => h W1 g1 _ fun v W2 g2 ⟨a, vs, e, s, r⟩ =>
  ⟨a, e, ⟨vs, SqT.of (W2.sub.et s)⟩, k (Itt K a) W2 g2 ⟨fun i W' o hi => by
      obtain ⟨x, hx⟩ : ∃ x, xs.items[i]? = some x := ⟨xs.items[i], by simp [hi]⟩
      obtain ⟨v, h1, _⟩ := Reps.get' r hx
      exact ⟨vs, v, SqT.of (W'.sub.et (o.b _ _ s)), h1⟩,
    fun i W' v H'' o hi ⟨e1, e2⟩ => by
      obtain ⟨x, h1, h2⟩ := Reps.get r (e2 vs (SqT.of (W'.sub.et (o.b _ _ s))))
      exact ⟨x, W', e1.symm, .refl _ _, h1, rex o.b h2⟩,
    fun i W' o hi => ⟨vs, SqT.of (W'.sub.et (o.b _ _ s)), by rw [Reps.len r]; exact hi⟩⟩⟩
/-- lo, lo + 1, .. -/
def rng (lo : Int) (n : Nat) : List Int := (List.range n).map fun i => lo + (i : Nat)
theorem rng_len (lo : Int) (n : Nat) : (rng lo n).length = n := by unfold rng; simp
theorem rng_get {lo : Int} {n i : Nat} (h : i < n) : (rng lo n)[i]? = some (lo + (i : Nat)) := by unfold rng; simp [h]
theorem rng_mem {lo k : Int} {n : Nat} : k ∈ rng lo n ↔ lo ≤ k ∧ k < lo + n := by
  unfold rng
  simp only [List.mem_map, List.mem_range]
  constructor
  · rintro ⟨i, h, rfl⟩; omega
  · rintro ⟨h1, h2⟩; exact ⟨(k - lo).toNat, by omega, by omega⟩
theorem src_range {lo : Int} {n : Nat} {S : Wd → Prop} : Src K (Itr lo n) S (rng lo n) :=
  ⟨fun i W' _ hi => by rw [rng_len] at hi; exact hi, fun i W' v H'' _ hi ⟨e1, e2⟩ => ⟨_, W', e1.symm, .refl _ _, rng_get (by rw [rng_len] at hi; exact hi), e2⟩,
    fun i W' _ hi => by rw [rng_len] at hi; exact hi⟩
theorem ei_rng1 {n : Int} (h : EvR ε K ta σ W n) (hn : n ≤ 1000000000) (hm : -1000000000 ≤ n) : EvJ ε K (iRng1 (tCons ta tNil)) σ W (rng 0 n.toNat) := fun W1 g1 R k => h W1 g1 _ fun v W2 g2 r =>
  ⟨n, by rw [show v = _ from r], by omega, by omega, k _ W2 g2 src_range⟩
theorem ei_rng2 {m n : Int} (ha : EvR ε K ta σ W m) (hb : EvR ε K tb σ W n) (h1 : m ≤ 1000000000 ∧ -1000000000 ≤ m ∧ n ≤ 1000000000 ∧ -1000000000 ≤ n) : EvJ ε K (iRng2 (tCons ta (tCons tb tNil))) σ W (rng m (n - m).toNat) := fun W1 g1 R k => ha W1 g1 _ fun v W2 g2 r =>
  hb W2 (g1.trans g2) _ fun u W3 g3 ru => ⟨m, n, by rw [show v = _ from r, show u = _ from ru], by omega, k _ W3 (g2.trans g3) src_range⟩
theorem ei_enum {xs : List α} (h : EvR ε K te σ W xs) : EvJ ε K (iEnum K (tCons te tNil)) σ W ((rng 0 xs.length).zip xs) := fun W1 g1 R k => h W1 g1 _ fun v W2 g2 ⟨a, vs, e, s, r⟩ =>
  ⟨a, vs, by rw [e], SqL.of (W2.sub.el s), k (Ite K a) W2 g2 ⟨fun i W' o hi => by
      have hi' : i < xs.length := by simp [rng_len] at hi; exact hi
      obtain ⟨x, hx⟩ : ∃ x, xs[i]? = some x := ⟨xs[i], by simp [hi']⟩
      obtain ⟨v, h1, _⟩ := Reps.get' r hx
      exact ⟨vs, v, SqL.of (W'.sub.el (o.b _ _ s)), h1⟩,
    fun i W' v H'' o hi ⟨T, x, e1, hT, e2, e3⟩ => by
      have hi' : i < xs.length := by simp [rng_len] at hi; exact hi
      obtain ⟨y, h1, h2⟩ := Reps.get r (e3 vs (SqL.of (W'.sub.el (o.b _ _ s))))
      refine ⟨((i : Int), y), W'.add T _, e2.symm, W'.grow_add hT, ?_, T, .int (i : Nat), x, e1, upd_same, rfl, rep_g (W'.grow_add hT) (rex o.b h2)⟩
      rw [List.getElem?_zip_eq_some]
      exact ⟨by rw [rng_get hi']; simp, h1⟩,
    fun i W' o hi => ⟨vs, SqL.of (W'.sub.el (o.b _ _ s)), by rw [Reps.len r]; simp [rng_len] at hi; exact hi⟩⟩⟩
theorem ei_zip {xs : List α} {ys : List β} (ha : EvR ε K ta σ W xs) (hb : EvR ε K tb σ W ys) : EvJ ε K (iZip K (tCons ta (tCons tb tNil))) σ W (xs.zip ys) := fun W1 g1 R k => ha W1 g1 _ fun v W2 g2 r1 => hb W2 (g1.trans g2) _ fun u W3 g3 r2 => by
  obtain ⟨a, vs, e, s, r⟩ := rep_s g3 r1
  obtain ⟨b, us, e', s', r'⟩ := r2
  refine ⟨a, b, vs, us, by rw [e, e'], SqL.of (W3.sub.el s), SqL.of (W3.sub.el s'), k (Itz K a b) W3 (g2.trans g3) ⟨fun i W' o hi => ?_, fun i W' v H'' o hi ⟨T, x, y, e1, hT, e2, e3, e4⟩ => ?_, fun i W' o hi => ?_⟩⟩
  · have hi' : i < xs.length ∧ i < ys.length := by simp at hi; omega
    obtain ⟨x, hx⟩ : ∃ x, xs[i]? = some x := ⟨xs[i], by simp [hi'.1]⟩
    obtain ⟨y, hy⟩ : ∃ x, ys[i]? = some x := ⟨ys[i], by simp [hi'.2]⟩
    obtain ⟨v, h1, _⟩ := Reps.get' r hx
    obtain ⟨u, h2, _⟩ := Reps.get' r' hy
    exact ⟨vs, us, v, u, SqL.of (W'.sub.el (o.b _ _ s)), SqL.of (W'.sub.el (o.b _ _ s')), h1, h2⟩
  · obtain ⟨p, h1, h2⟩ := Reps.get r (e3 vs (SqL.of (W'.sub.el (o.b _ _ s))))
    obtain ⟨q, h3, h4⟩ := Reps.get r' (e4 us (SqL.of (W'.sub.el (o.b _ _ s'))))
    refine ⟨(p, q), W'.add T _, e2.symm, W'.grow_add hT, ?_, T, x, y, e1, upd_same, rep_g (W'.grow_add hT) (rex o.b h2), rep_g (W'.grow_add hT) (rex o.b h4)⟩
    rw [List.getElem?_zip_eq_some]
    exact ⟨h1, h3⟩
  · refine ⟨vs, us, SqL.of (W'.sub.el (o.b _ _ s)), SqL.of (W'.sub.el (o.b _ _ s')), ?_⟩
    rw [Reps.len r, Reps.len r']
    simp at hi
    omega
end
end B
/-! B: comprehensions, locked dicts, statements, calls -/
namespace B
open PySem L2
open Evl (Ex)
/-! ### an iterated target -/
def GT {α : Type} [Py α] (K : Fg) (g : TG) (P : α → SS → SS → Wd → Prop) : Prop :=
  ∀ x v W σ (Q : SS → Hp → Prop), rep K W.B v x → (∀ σ2, P x σ σ2 W → Q σ2 W.H) → g v σ W.H Q
section
variable {α β γ : Type} [Py α] [Py β] [Py γ] {K : Fg} {σ : SS} {W W' : Wd} {v : V} {te ta tb : TE} {tt : TT} {wi : TI} {g : TG} {vs : List Nat} {ε : Ef}
def PN (K : Fg) (j : Nat) (x : α) (σ σ2 : SS) (W : Wd) : Prop := ∃ v, rep K W.B v x ∧ σ2 = σ.set j (some v)
def PP (K : Fg) (i j : Nat) (x : α × β) (σ σ2 : SS) (W : Wd) : Prop := ∃ v u, rep K W.B v x.1 ∧ rep K W.B u x.2 ∧ σ2 = (σ.set i (some v)).set j (some u)
theorem gt_name {j : Nat} : GT (α := α) K (gName j) (PN K j) := fun x v W σ Q r k => k _ ⟨v, r, rfl⟩
abbrev gPair (K : Fg) (i j : Nat) : TG := gTup K 2 (gCons (gName i) (gCons (gName j) gNil))
theorem gt_pair {i j : Nat} : GT (α := α × β) K (gPair K i j) (PP K i j) := fun x v W σ Q ⟨a, p, q, e, s, r1, r2⟩ k =>
  ⟨a, [p, q], e, SqT.of (W.sub.et s), rfl, p, [q], rfl, q, [], rfl, rfl, k _ ⟨p, q, r1, r2, rfl⟩⟩
/-! ### list comprehensions -/
theorem en_lc {xs : List α} {p : α → Bool} {f : α → β} {P : α → SS → SS → Wd → Prop} (hi : EvI ε K wi σ W xs) (hg : GT K g P)
    (hw : ∀ x σ2 W', P x (wipe σ vs) σ2 W' → wipe σ2 vs = wipe σ vs)
    (ht : ∀ x W' σ2, x ∈ xs → Stp ε W W' → P x (wipe σ vs) σ2 W' → EvT ε tt σ2 W' (p x))
    (he : ∀ x W' σ2, x ∈ xs → p x = true → Stp ε W W' → P x (wipe σ vs) σ2 W' → EvR ε K te σ2 W' (f x))
    (hP : ∀ x σ2 W' W'', P x (wipe σ vs) σ2 W' → Stp ε W' W'' → P x (wipe σ vs) σ2 W'')
    (hl : xs.length ≤ 100000) : EvN ε K (tLc wi g tt te vs) σ W ((xs.filter p).map f) := fun W1 g1 Q k =>
  hi W1 g1 _ fun J S W2 g2 s2 sg src D hD => by
    have DS : D ∉ ε.S := Ef.off g2.i hD
    refine ⟨fun i m H => m = xs.length - i ∧ i ≤ xs.length ∧ ∃ Wi acc, Wi.H = H ∧ Stp ε W2 Wi ∧ Wi.B D = none ∧ Wi.H D = some (.lst acc) ∧ Reps K Wi.B acc (((xs.take i).filter p).map f), ⟨xs.length, rfl, Nat.zero_le _, W2.put D (.lst []) (W2.free hD), [], rfl, ⟨md_mut (.refl _ _) (W2.free hD) hD, i_put DS g2.i _⟩, W2.free hD, upd_same, by simpa using Paired.nil⟩, ?_⟩
    rintro i m H ⟨rfl, hle, Wi, acc, rfl, gi, bD, hDi, rs⟩
    have si : S Wi := sg _ _ s2 gi
    have hacc : acc.length ≤ i := by
      rw [Reps.len rs, List.length_map]
      exact Nat.le_trans (List.length_filter_le _ _) (by rw [List.length_take]; omega)
    by_cases hlt : i < xs.length
    · refine .inr ⟨src.go i Wi si hlt, fun H => i + 1 ≤ xs.length ∧ ∃ Wi acc, Wi.H = H ∧ Stp ε W2 Wi ∧ Wi.B D = none ∧ Wi.H D = some (.lst acc) ∧ Reps K Wi.B acc (((xs.take (i + 1)).filter p).map f), fun H' h' => ⟨_, by omega, rfl, h'⟩, fun v H'' hy => ?_⟩
      obtain ⟨x, W3, rfl, g3', hx, r⟩ := src.yld i Wi v H'' si hlt hy
      have g3 : Stp ε Wi W3 := gi.rf.and g3'
      have hm : x ∈ xs := List.mem_of_getElem? hx
      have tk : xs.take (i + 1) = xs.take i ++ [x] := by rw [List.take_add_one, hx]; rfl
      have m3 := g3.md.mut DS hDi bD
      refine hg x v W3 _ _ r fun σ2 hp => ⟨hw x σ2 W3 hp, ?_⟩
      refine ht x W3 σ2 hm (((g1.trans g2).trans gi).trans g3) hp W3 g3.rf _ fun W4 g4 => ?_
      have m4 := g4.md.mut DS m3.1 m3.2
      cases hpx : p x with
      | true =>
        rw [if_pos rfl]
        refine he x W4 σ2 hm hpx ((((g1.trans g2).trans gi).trans g3).trans g4) (hP x σ2 W3 W4 hp g4) W4 g4.rf _ fun u W5 g5 r5 => ?_
        have m5 := g5.md.mut DS m4.1 m4.2
        refine ⟨acc, m5.1, Evl.sz_lt (by omega), hlt, W5.put D _ m5.2, acc ++ [u], rfl, ⟨md_mut (((gi.trans g3).trans g4).trans g5).md m5.2 hD, i_put DS g5.i _⟩, m5.2, upd_same, ?_⟩
        rw [tk, List.filter_append, List.map_append]
        simp only [List.filter_cons, hpx, if_pos, List.filter_nil, List.map_cons, List.map_nil]
        exact Reps.snoc (Reps.mono (exExt ((g3.trans g4).trans g5).md.b) rs) r5
      | false =>
        rw [if_neg Bool.false_ne_true]
        refine ⟨hlt, W4, acc, rfl, (gi.trans g3).trans g4, m4.2, m4.1, ?_⟩
        rw [tk, List.filter_append, List.map_append]
        simp only [List.filter_cons, hpx, List.filter_nil, List.map_nil, List.append_nil, if_neg Bool.false_ne_true]
        exact Reps.mono (exExt (g3.trans g4).md.b) rs
    · have e : i = xs.length := by omega
      subst e
      rw [List.take_length] at rs
      exact .inl ⟨src.stop _ Wi si (Nat.le_refl _), k D acc Wi (g2.trans gi) (by
        cases e : W1.H D with
        | none => rfl
        | some o => exact absurd hD (g2.md.d D (by rw [e]; exact fun z => by cases z))) bD hDi rs⟩
theorem et_yes : EvT ε tYes σ W true := fun W1 g1 Q k => k W1 g1.rf
theorem wipe1 {j : Nat} {v : V} : wipe ((wipe σ [j]).set j (some v)) [j] = wipe σ [j] := by simp [wipe, List.set_set]
theorem set_none_comm {σ : SS} {i j : Nat} {a : Option V} (h : i ≠ j) : (σ.set i a).set j none = (σ.set j none).set i a := List.set_comm _ _ h
theorem wipe2 {i j : Nat} {v u : V} : wipe (((wipe σ [i, j]).set i (some v)).set j (some u)) [i, j] = wipe σ [i, j] := by
  simp only [wipe]
  by_cases h : i = j
  · subst h; simp [List.set_set]
  · rw [List.set_set, set_none_comm (σ := ((σ.set j none).set i none)) h, List.set_set, List.set_comm (l := σ) _ _ (Ne.symm h), List.set_set]
    rw [List.set_comm (l := σ) _ _ h, List.set_set]
theorem filter_yes (xs : List α) : xs.filter (fun _ => true) = xs := List.filter_eq_self.mpr fun _ _ => rfl
/-- [e for x in ..], [e for x in .. if t] -/
theorem en_lcN {j : Nat} {xs : List α} {f : α → β} (hi : EvI ε K wi σ W xs) (he : ∀ x v W', x ∈ xs → Stp ε W W' → rep K W'.B v x → EvR ε K te ((wipe σ [j]).set j (some v)) W' (f x)) (hl : xs.length ≤ 100000) :
    EvN ε K (tLc wi (gName j) tYes te [j]) σ W (xs.map f) := by
  have := en_lc (ε := ε) (K := K) (wi := wi) (g := gName j) (tt := tYes) (te := te) (vs := [j]) (p := fun _ => true) (f := f) hi gt_name (fun x σ2 W' ⟨v, _, e⟩ => by rw [e]; exact wipe1) (fun _ _ _ _ _ _ => et_yes)
    (fun x W' σ2 hm _ g ⟨v, r, e⟩ => by rw [e]; exact he x v W' hm g r) (fun x σ2 W' W'' ⟨v, r, e⟩ g => ⟨v, rep_s g r, e⟩) hl
  rw [filter_yes] at this
  exact this
theorem ev_lcN {j : Nat} {xs : List α} {f : α → β} (hi : EvI ε K wi σ W xs) (he : ∀ x v W', x ∈ xs → Stp ε W W' → rep K W'.B v x → EvR ε K te ((wipe σ [j]).set j (some v)) W' (f x)) (hl : xs.length ≤ 100000) :
    EvR ε K (tLc wi (gName j) tYes te [j]) σ W (xs.map f) := (en_lcN hi he hl).toR
theorem en_lcNt {j : Nat} {xs : List α} {p : α → Bool} {f : α → β} (hi : EvI ε K wi σ W xs) (ht : ∀ x v W', x ∈ xs → Stp ε W W' → rep K W'.B v x → EvT ε tt ((wipe σ [j]).set j (some v)) W' (p x))
    (he : ∀ x v W', x ∈ xs → p x = true → Stp ε W W' → rep K W'.B v x → EvR ε K te ((wipe σ [j]).set j (some v)) W' (f x)) (hl : xs.length ≤ 100000) :
    EvN ε K (tLc wi (gName j) tt te [j]) σ W ((xs.filter p).map f) :=
  en_lc hi gt_name (fun x σ2 W' ⟨v, _, e⟩ => by rw [e]; exact wipe1) (fun x W' σ2 hm g ⟨v, r, e⟩ => by rw [e]; exact ht x v W' hm g r)
    (fun x W' σ2 hm hp g ⟨v, r, e⟩ => by rw [e]; exact he x v W' hm hp g r) (fun x σ2 W' W'' ⟨v, r, e⟩ g => ⟨v, rep_s g r, e⟩) hl
theorem ev_lcNt {j : Nat} {xs : List α} {p : α → Bool} {f : α → β} (hi : EvI ε K wi σ W xs) (ht : ∀ x v W', x ∈ xs → Stp ε W W' → rep K W'.B v x → EvT ε tt ((wipe σ [j]).set j (some v)) W' (p x))
    (he : ∀ x v W', x ∈ xs → p x = true → Stp ε W W' → rep K W'.B v x → EvR ε K te ((wipe σ [j]).set j (some v)) W' (f x)) (hl : xs.length ≤ 100000) :
    EvR ε K (tLc wi (gName j) tt te [j]) σ W ((xs.filter p).map f) := (en_lcNt hi ht he hl).toR
theorem en_lcP {i j : Nat} {xs : List (α × β)} {f : α × β → γ} (hi : EvI ε K wi σ W xs) (he : ∀ x v u W', x ∈ xs → Stp ε W W' → rep K W'.B v x.1 → rep K W'.B u x.2 → EvR ε K te (((wipe σ [i, j]).set i (some v)).set j (some u)) W' (f x)) (hl : xs.length ≤ 100000) :
    EvN ε K (tLc wi (gPair K i j) tYes te [i, j]) σ W (xs.map f) := by
  have := en_lc (ε := ε) (K := K) (wi := wi) (g := gPair K i j) (tt := tYes) (te := te) (vs := [i, j]) (p := fun _ => true) (f := f) hi gt_pair (fun x σ2 W' ⟨v, u, _, _, e⟩ => by rw [e]; exact wipe2) (fun _ _ _ _ _ _ => et_yes)
    (fun x W' σ2 hm _ g ⟨v, u, r, r', e⟩ => by rw [e]; exact he x v u W' hm g r r') (fun x σ2 W' W'' ⟨v, u, r, r', e⟩ g => ⟨v, u, rep_s g r, rep_s g r', e⟩) hl
  rw [filter_yes] at this
  exact this
theorem ev_lcP {i j : Nat} {xs : List (α × β)} {f : α × β → γ} (hi : EvI ε K wi σ W xs) (he : ∀ x v u W', x ∈ xs → Stp ε W W' → rep K W'.B v x.1 → rep K W'.B u x.2 → EvR ε K te (((wipe σ [i, j]).set i (some v)).set j (some u)) W' (f x)) (hl : xs.length ≤ 100000) :
    EvR ε K (tLc wi (gPair K i j) tYes te [i, j]) σ W (xs.map f) := (en_lcP hi he hl).toR
theorem en_lcPt {i j : Nat} {xs : List (α × β)} {p : α × β → Bool} {f : α × β → γ} (hi : EvI ε K wi σ W xs) (ht : ∀ x v u W', x ∈ xs → Stp ε W W' → rep K W'.B v x.1 → rep K W'.B u x.2 → EvT ε tt (((wipe σ [i, j]).set i (some v)).set j (some u)) W' (p x))
    (he : ∀ x v u W', x ∈ xs → p x = true → Stp ε W W' → rep K W'.B v x.1 → rep K W'.B u x.2 → EvR ε K te (((wipe σ [i, j]).set i (some v)).set j (some u)) W' (f x)) (hl : xs.length ≤ 100000) :
    EvN ε K (tLc wi (gPair K i j) tt te [i, j]) σ W ((xs.filter p).map f) :=
  en_lc hi gt_pair (fun x σ2 W' ⟨v, u, _, _, e⟩ => by rw [e]; exact wipe2) (fun x W' σ2 hm g ⟨v, u, r, r', e⟩ => by rw [e]; exact ht x v u W' hm g r r')
    (fun x W' σ2 hm hp g ⟨v, u, r, r', e⟩ => by rw [e]; exact he x v u W' hm hp g r r') (fun x σ2 W' W'' ⟨v, u, r, r', e⟩ g => ⟨v, u, rep_s g r, rep_s g r', e⟩) hl
theorem ev_lcPt {i j : Nat} {xs : List (α × β)} {p : α × β → Bool} {f : α × β → γ} (hi : EvI ε K wi σ W xs) (ht : ∀ x v u W', x ∈ xs → Stp ε W W' → rep K W'.B v x.1 → rep K W'.B u x.2 → EvT ε tt (((wipe σ [i, j]).set i (some v)).set j (some u)) W' (p x))
    (he : ∀ x v u W', x ∈ xs → p x = true → Stp ε W W' → rep K W'.B v x.1 → rep K W'.B u x.2 → EvR ε K te (((wipe σ [i, j]).set i (some v)).set j (some u)) W' (f x)) (hl : xs.length ≤ 100000) :
    EvR ε K (tLc wi (gPair K i j) tt te [i, j]) σ W ((xs.filter p).map f) := (en_lcPt hi ht he hl).toR
end

/-! ### a dict, locked -/
structure Lk (W WL : Wd) (d : Addr) (ks : List (Key × V)) : Prop where
  b : Ex W.B WL.B
  lk : ∃ od, WL.H d = some (.frz od (.dK ks))
  h : ∀ a o, a ≠ d → W.H a = some o → WL.H a = some o
section
variable {α β : Type} [Py α] [Py β] {K : Fg} {σ : SS} {W W' : Wd} {v : V} {te : TE} {t : TE} {ε : Ef}
theorem rep_lk {WL : Wd} {d : Addr} {ks : List (Key × V)} {x : α} (l : Lk W WL d ks) (h : rep K W.B v x) : rep K WL.B v x := rex l.b h
theorem ev_lock {d : Addr} {ks : List (Key × V)} {x : α} (hd : W.H d = some (.dK ks)) (h : ∀ WL, Lk W WL d ks → EvR pur K t σ WL x) : EvR pur K (tLockE t) σ W x := fun W1 g1' Q k => by
  have g1 := g1'.pure
  have hd1 := g1.h _ _ hd
  refine ⟨d, _, hd1, trivial, fun od => ?_⟩
  have sub : Ext W1.B (upd W1.H d (.frz od (.dK ks))) := fun a o e => by
    by_cases q : a = d
    · subst q
      rcases W1.sub a o e with h1 | ⟨⟨k', rfl⟩, ob, h1⟩
      · rw [hd1] at h1; cases h1
        exact .inr ⟨⟨ks, rfl⟩, od, upd_same⟩
      · rw [hd1] at h1; cases h1
    · rw [upd_ne q]; exact W1.sub a o e
  let WL : Wd := ⟨W1.B, upd W1.H d (.frz od (.dK ks)), sub⟩
  have lk : Lk W WL d ks := ⟨g1.b, ⟨od, upd_same⟩, fun a o q e => by
    show upd W1.H d _ a = some o
    rw [upd_ne q]; exact g1.h a o e⟩
  refine h WL lk WL (.start trivial) _ fun v W2 g2' r => ?_
  have g2 := g2'.pure
  have h2 : W2.H d = some (.frz od (.dK ks)) := g2.h _ _ upd_same
  refine ⟨h2, ?_⟩
  have hB : W2.B d = W1.B d := g2.m d ⟨.frz od (.dK ks), upd_same, fun _ z => by cases z⟩
  have sub3 : Ext W2.B (upd W2.H d (.dK ks)) := fun a o e => by
    by_cases q : a = d
    · subst q
      rw [hB] at e
      rcases W1.sub a o e with h1 | ⟨⟨k', rfl⟩, ob, h1⟩
      · rw [hd1] at h1; cases h1; exact .inl upd_same
      · rw [hd1] at h1; cases h1
    · rw [upd_ne q]; exact W2.sub a o e
  refine k v ⟨W2.B, upd W2.H d (.dK ks), sub3⟩ (.of (.mk g2.b (fun a o e => ?_) (fun a ha => ?_))) r
  · show upd W2.H d (.dK ks) a = some o
    by_cases q : a = d
    · subst q; rw [hd1] at e; cases e; exact upd_same
    · rw [upd_ne q]
      exact g2.h a o (by show upd W1.H d _ a = some o; rw [upd_ne q]; exact e)
  · refine g2.m a ?_
    show Nt (upd W1.H d _) a
    by_cases q : a = d
    · subst q; exact ⟨_, upd_same, fun _ z => by cases z⟩
    · obtain ⟨u, e, hu⟩ := ha
      exact ⟨u, (upd_ne q).trans e, hu⟩
section
variable {κ : Type} [PyKV κ] {d : Addr} {ks : List (Key × V)} {kv : List (κ × α)}
theorem ei_items {WL : Wd} (hv : EvR pur K te σ WL (Raw.mk (.ref d))) (lk : ∃ od, WL.H d = some (.frz od (.dK ks))) (r : KReps K WL.B ks kv) : EvI pur K (iItems te) σ WL kv := fun W1 g1 R k => hv W1 g1 _ fun v W2 g2 e => by
  obtain ⟨od, hod⟩ := lk
  have h2 := (g1.trans g2).pure.h _ _ hod
  refine ⟨d, od, ks, e, h2, k (Iti d od ks) (fun W' => W'.H d = some (.frz od (.dK ks)) ∧ Ex WL.B W'.B) W2 g2 ⟨h2, (g1.trans g2).md.b⟩ (fun W W' ⟨a, b⟩ g => ⟨g.pure.h _ _ a, b.trans g.md.b⟩) ⟨fun i W' s hi => ⟨s.1, by rw [KReps.len r]; exact hi⟩, fun i W' v H'' s hi ⟨T, k', v', h1, e1, hT, e2⟩ => ?_, fun i W' s hi => ⟨s.1, by rw [KReps.len r]; exact hi⟩⟩⟩
  obtain ⟨q, hq, hk, hr⟩ := KReps.get r h1
  refine ⟨q, W'.add T _, e2.symm, W'.grow_add hT, hq, T, _, _, e1, upd_same, ?_, rep_g (W'.grow_add hT) (rex s.2 hr)⟩
  rw [hk]
  exact PyKV.krep _ _ _
theorem ei_keys {WL : Wd} (hv : EvR pur K te σ WL (Raw.mk (.ref d))) (lk : ∃ od, WL.H d = some (.frz od (.dK ks))) (r : KReps K WL.B ks kv) : EvI pur K (iKeys te) σ WL (kv.map (·.1)) := fun W1 g1 R k => hv W1 g1 _ fun v W2 g2 e => by
  obtain ⟨od, hod⟩ := lk
  have h2 := (g1.trans g2).pure.h _ _ hod
  refine ⟨d, od, e, .inl ⟨ks, h2, k (Itk d od ks) (fun W' => W'.H d = some (.frz od (.dK ks)) ∧ Ex WL.B W'.B) W2 g2 ⟨h2, (g1.trans g2).md.b⟩ (fun W W' ⟨a, b⟩ g => ⟨g.pure.h _ _ a, b.trans g.md.b⟩) ⟨fun i W' s hi => ⟨s.1, by rw [KReps.len r]; simpa using hi⟩, fun i W' v H'' s hi ⟨e2, k', v', h1, e1⟩ => ?_, fun i W' s hi => ⟨s.1, by rw [KReps.len r]; simpa using hi⟩⟩⟩⟩
  obtain ⟨q, hq, hk, hr⟩ := KReps.get r h1
  exact ⟨q.1, W', e2.symm, .refl _ _, by simp [hq], by rw [e1, hk]; exact PyKV.krep _ _ _⟩
theorem ei_vals {WL : Wd} (hv : EvR pur K te σ WL (Raw.mk (.ref d))) (lk : ∃ od, WL.H d = some (.frz od (.dK ks))) (r : KReps K WL.B ks kv) : EvI pur K (iVals te) σ WL (kv.map (·.2)) := fun W1 g1 R k => hv W1 g1 _ fun v W2 g2 e => by
  obtain ⟨od, hod⟩ := lk
  have h2 := (g1.trans g2).pure.h _ _ hod
  refine ⟨d, od, ks, e, h2, k (Itd d od ks) (fun W' => W'.H d = some (.frz od (.dK ks)) ∧ Ex WL.B W'.B) W2 g2 ⟨h2, (g1.trans g2).md.b⟩ (fun W W' ⟨a, b⟩ g => ⟨g.pure.h _ _ a, b.trans g.md.b⟩) ⟨fun i W' s hi => ⟨s.1, by rw [KReps.len r]; simpa using hi⟩, fun i W' v H'' s hi ⟨e2, k', h1⟩ => ?_, fun i W' s hi => ⟨s.1, by rw [KReps.len r]; simpa using hi⟩⟩⟩
  obtain ⟨q, hq, hk, hr⟩ := KReps.get r h1
  exact ⟨q.2, W', e2.symm, .refl _ _, by simp [hq], rex s.2 hr⟩
end
end

/-! ### statements -/
section
variable {α β γ : Type} [Py α] [Py β] [Py γ] {K : Fg} {σ : SS} {W : Wd} {D : Ends} {te ta tb : TE} {t : TT} {tu tw tz : TS} {x : α} {y : β} {ε : Ef}
theorem s_asgP {P : V → Wd → Prop} {i : Nat} (h : EvP ε te σ W P) (s : ε.I W) (k : ∀ v W', Stp ε W W' → P v W' → D.nx (σ.set i (some v)) W'.H) : tAsg te (gName i) D σ W.H := h W (.start s) _ k
theorem q_asgP {P : V → Wd → Prop} {i : Nat} (h : EvP ε te σ W P) (s : ε.I W) (k : ∀ v W', Stp ε W W' → P v W' → tz D (σ.set i (some v)) W'.H) : tSeq (tAsg te (gName i)) tz D σ W.H := h W (.start s) _ k
theorem q_asg {i : Nat} (h : EvR ε K te σ W x) (s : ε.I W) (k : ∀ v W', Stp ε W W' → rep K W'.B v x → tz D (σ.set i (some v)) W'.H) : tSeq (tAsg te (gName i)) tz D σ W.H := h W (.start s) _ k
theorem s_asg {i : Nat} (h : EvR ε K te σ W x) (s : ε.I W) (k : ∀ v W', Stp ε W W' → rep K W'.B v x → D.nx (σ.set i (some v)) W'.H) : tAsg te (gName i) D σ W.H := h W (.start s) _ k
theorem q_asgN {xs : List α} {i : Nat} (h : EvN ε K te σ W xs) (s : ε.I W) (k : ∀ p vs W', Stp ε W W' → W.H p = none → W'.B p = none → W'.H p = some (.lst vs) → Reps K W'.B vs xs → tz D (σ.set i (some (.ref p))) W'.H) : tSeq (tAsg te (gName i)) tz D σ W.H := h W (.start s) _ k
theorem s_asgN {xs : List α} {i : Nat} (h : EvN ε K te σ W xs) (s : ε.I W) (k : ∀ p vs W', Stp ε W W' → W.H p = none → W'.B p = none → W'.H p = some (.lst vs) → Reps K W'.B vs xs → D.nx (σ.set i (some (.ref p))) W'.H) : tAsg te (gName i) D σ W.H := h W (.start s) _ k
theorem s_retN {xs : List α} (h : EvN ε K te σ W xs) (s : ε.I W) (k : ∀ p vs W', Stp ε W W' → W.H p = none → W'.B p = none → W'.H p = some (.lst vs) → Reps K W'.B vs xs → D.rt (.ref p) W'.H) : tRet te D σ W.H := h W (.start s) _ k
theorem s_ret (h : EvR ε K te σ W x) (s : ε.I W) (k : ∀ v W', Stp ε W W' → rep K W'.B v x → D.rt v W'.H) : tRet te D σ W.H := h W (.start s) _ k
theorem s_retP {P : V → Wd → Prop} (h : EvP ε te σ W P) (s : ε.I W) (k : ∀ v W', Stp ε W W' → P v W' → D.rt v W'.H) : tRet te D σ W.H := h W (.start s) _ k
theorem s_if {b : Bool} (h : EvT ε t σ W b) (s : ε.I W) (h1 : b = true → ∀ W', Stp ε W W' → tu D σ W'.H) (h2 : b = false → ∀ W', Stp ε W W' → tw D σ W'.H) : tIfS t tu tw D σ W.H := h W (.start s) _ fun W' g => by
  cases b with
  | true => rw [if_pos rfl]; exact h1 rfl W' g
  | false => rw [if_neg Bool.false_ne_true]; exact h2 rfl W' g
theorem q_if {b : Bool} (h : EvT ε t σ W b) (s : ε.I W) (h1 : b = true → ∀ W', Stp ε W W' → tu { D with nx := tz D } σ W'.H) (h2 : b = false → ∀ W', Stp ε W W' → tw { D with nx := tz D } σ W'.H) : tSeq (tIfS t tu tw) tz D σ W.H := s_if (D := { D with nx := tz D }) h s h1 h2
/-- an if without else -/
theorem q_when {b : Bool} (h : EvT ε t σ W b) (s : ε.I W) (h1 : b = true → ∀ W', Stp ε W W' → tu { D with nx := tz D } σ W'.H) (h2 : b = false → ∀ W', Stp ε W W' → tz D σ W'.H) : tSeq (tIfS t tu tNext) tz D σ W.H := s_if (D := { D with nx := tz D }) h s h1 h2
theorem s_when {b : Bool} (h : EvT ε t σ W b) (s : ε.I W) (h1 : b = true → ∀ W', Stp ε W W' → tu D σ W'.H) (h2 : b = false → ∀ W', Stp ε W W' → D.nx σ W'.H) : tIfS t tu tNext D σ W.H := s_if h s h1 h2
theorem q_drop {P : V → Wd → Prop} (h : EvP ε te σ W P) (s : ε.I W) (k : ∀ v W', Stp ε W W' → P v W' → tz D σ W'.H) : tSeq (tDrop te) tz D σ W.H := h W (.start s) _ k
theorem q_augI {i : Nat} {f : Int → Int → Int} {a b : Int} (hx : σ[i]? = some (some (.int a))) (h : EvR ε K te σ W b) (s : ε.I W) (k : ∀ W', Stp ε W W' → tz D (σ.set i (some (.int (f a b)))) W'.H) : tSeq (tAug i te (ipI f)) tz D σ W.H :=
  ⟨_, hx, h W (.start s) _ fun u W' g ru => ⟨a, b, rfl, ru, k W' g⟩⟩
theorem s_augI {i : Nat} {f : Int → Int → Int} {a b : Int} (hx : σ[i]? = some (some (.int a))) (h : EvR ε K te σ W b) (s : ε.I W) (k : ∀ W', Stp ε W W' → D.nx (σ.set i (some (.int (f a b)))) W'.H) : tAug i te (ipI f) D σ W.H :=
  ⟨_, hx, h W (.start s) _ fun u W' g ru => ⟨a, b, rfl, ru, k W' g⟩⟩
/-- a, b = x, y -/
theorem q_par {i j : Nat} {P R : V → Wd → Prop} (ha : EvP ε ta σ W P) (hb : EvP ε tb σ W R) (s : ε.I W) (mono : ∀ v W W', Stp ε W W' → P v W → P v W')
    (k : ∀ v u W', Stp ε W W' → P v W' → R u W' → tz D ((σ.set i (some v)).set j (some u)) W'.H) : tSeq (tPar i j (tCons ta (tCons tb tNil))) tz D σ W.H :=
  ha W (.start s) _ fun v W1 g1 p => hb W1 g1 _ fun u W2 g2 r => ⟨v, u, rfl, k v u W2 (g1.trans g2) (mono v W1 W2 g2 p) r⟩
/-- the turns of a for over what J walks: Pv by the turn, the slots, the world -/
theorem for_src {g : TG} {xs : List α} {J : It} {W2 : Wd} (src : Src K J (On W2) xs) (Pv : Nat → SS → Wd → Prop) (h0 : Pv 0 σ W2) (hon : ∀ i σ' W', Pv i σ' W' → On W2 W')
    (hs : ∀ i x v σ' W' W'', i < xs.length → xs[i]? = some x → Pv i σ' W' → Grow W' W'' → rep K W''.B v x → g v σ' W''.H fun σ2 H2 => tu { D with nx := fun σ H => ∃ W, W.H = H ∧ Pv (i + 1) σ W, ct := fun σ H => ∃ W, W.H = H ∧ Pv (i + 1) σ W, bk := D.nx } σ2 H2)
    (hd : ∀ σ' W', Pv xs.length σ' W' → D.nx σ' W'.H) :
    ∃ W : Nat → Nat → SS → Hp → Prop, (∃ m, W 0 m σ W2.H) ∧ ∀ i m σ H, W i m σ H →
      (J.stop i H ∧ D.nx σ H) ∨ (J.go i H ∧ ∃ N : SS → Hp → Prop, (∀ σ' H', N σ' H' → ∃ m', m' < m ∧ W (i + 1) m' σ' H') ∧ ∀ x H', J.yld i H x H' → g x σ H' fun σ2 H2 => tu { D with nx := N, ct := N, bk := D.nx } σ2 H2) := by
  refine ⟨fun i m σ H => m = xs.length - i ∧ i ≤ xs.length ∧ ∃ W, W.H = H ∧ Pv i σ W, ⟨xs.length, rfl, Nat.zero_le _, W2, rfl, h0⟩, ?_⟩
  rintro i m σ' H ⟨rfl, hle, W', rfl, p⟩
  by_cases hlt : i < xs.length
  · refine .inr ⟨src.go i W' (hon i σ' W' p) hlt, fun σ H => ∃ W, W.H = H ∧ Pv (i + 1) σ W, fun σ'' H'' q => ⟨_, by omega, rfl, hlt, q⟩, fun v H'' hy => ?_⟩
    obtain ⟨x, W'', rfl, gg, hx, r⟩ := src.yld i W' v H'' (hon i σ' W' p) hlt hy
    exact hs i x v σ' W' W'' hlt hx p gg r
  · have e : i = xs.length := by omega
    subst e
    exact .inl ⟨src.stop _ W' (hon _ _ _ p) (Nat.le_refl _), hd σ' W' p⟩
/-- for target in .. -/
theorem s_for {wi : TI} {g : TG} {xs : List α} (hi : EvJ ε K wi σ W xs) (s : ε.I W)
    (k : ∀ W2, Stp ε W W2 → ∃ Pv : Nat → SS → Wd → Prop, Pv 0 σ W2 ∧ (∀ i σ' W', Pv i σ' W' → On W2 W') ∧
      (∀ i x v σ' W' W'', i < xs.length → xs[i]? = some x → Pv i σ' W' → Grow W' W'' → rep K W''.B v x → g v σ' W''.H fun σ2 H2 => tu { D with nx := fun σ H => ∃ W, W.H = H ∧ Pv (i + 1) σ W, ct := fun σ H => ∃ W, W.H = H ∧ Pv (i + 1) σ W, bk := D.nx } σ2 H2) ∧
      (∀ σ' W', Pv xs.length σ' W' → D.nx σ' W'.H)) : tFor wi g tu D σ W.H := hi W (.start s) _ fun J W2 g2 src => by
  obtain ⟨Pv, h0, hon, hs, hd⟩ := k W2 g2
  exact for_src src Pv h0 hon hs hd
theorem q_for {wi : TI} {g : TG} {xs : List α} (hi : EvJ ε K wi σ W xs) (s : ε.I W)
    (k : ∀ W2, Stp ε W W2 → ∃ Pv : Nat → SS → Wd → Prop, Pv 0 σ W2 ∧ (∀ i σ' W', Pv i σ' W' → On W2 W') ∧
      (∀ i x v σ' W' W'', i < xs.length → xs[i]? = some x → Pv i σ' W' → Grow W' W'' → rep K W''.B v x → g v σ' W''.H fun σ2 H2 => tu { D with nx := fun σ H => ∃ W, W.H = H ∧ Pv (i + 1) σ W, ct := fun σ H => ∃ W, W.H = H ∧ Pv (i + 1) σ W, bk := tz D } σ2 H2) ∧
      (∀ σ' W', Pv xs.length σ' W' → tz D σ' W'.H)) : tSeq (tFor wi g tu) tz D σ W.H := s_for (D := { D with nx := tz D }) hi s k
/-- for k in range(a drawn number) -/
theorem for_rng {j : Nat} {n : Int} {W2 : Wd} (Pv : Nat → SS → Wd → Prop) (h0 : Pv 0 σ W2) (hon : ∀ i σ' W', Pv i σ' W' → On W2 W')
    (hs : ∀ (i : Nat) σ' W', (i : Int) < n → Pv i σ' W' → tu { D with nx := fun σ H => ∃ W, W.H = H ∧ Pv (i + 1) σ W, ct := fun σ H => ∃ W, W.H = H ∧ Pv (i + 1) σ W, bk := D.nx } (σ'.set j (some (.int (i : Int)))) W'.H)
    (hd : ∀ σ' W', Pv n.toNat σ' W' → D.nx σ' W'.H) :
    ∃ W : Nat → Nat → SS → Hp → Prop, (∃ m, W 0 m σ W2.H) ∧ ∀ i m σ H, W i m σ H →
      ((Itr 0 n.toNat).stop i H ∧ D.nx σ H) ∨ ((Itr 0 n.toNat).go i H ∧ ∃ N : SS → Hp → Prop, (∀ σ' H', N σ' H' → ∃ m', m' < m ∧ W (i + 1) m' σ' H') ∧ ∀ x H', (Itr 0 n.toNat).yld i H x H' → gName j x σ H' fun σ2 H2 => tu { D with nx := N, ct := N, bk := D.nx } σ2 H2) :=
  L2.for_range (fun i σ H => ∃ W, W.H = H ∧ Pv i σ W) ⟨W2, rfl, h0⟩ (fun i σ H hi ⟨W', e, p⟩ => by
    subst e
    have := hs i σ W' (by omega) p
    show tu _ (σ.set j (some (.int (0 + (i : Nat))))) W'.H
    rw [Int.zero_add]; exact this) (fun σ H ⟨W', e, p⟩ => by subst e; exact hd σ W' p)
/-- while -/
theorem s_while (Wm : Nat → SS → Wd → Prop) (m0 : Nat) (h0 : Wm m0 σ W)
    (hs : ∀ m σ' W', Wm m σ' W' → ε.I W' ∧ ∃ b, EvT ε t σ' W' b ∧ (b = true → ∀ W'', Stp ε W' W'' → tu { D with nx := fun σ H => ∃ m' W, m' < m ∧ W.H = H ∧ Wm m' σ W, ct := fun σ H => ∃ m' W, m' < m ∧ W.H = H ∧ Wm m' σ W, bk := D.nx } σ' W''.H) ∧ (b = false → ∀ W'', Stp ε W' W'' → D.nx σ' W''.H)) : tWhile t tu D σ W.H := by
  refine ⟨fun m σ H => ∃ W, W.H = H ∧ Wm m σ W, ⟨m0, W, rfl, h0⟩, ?_⟩
  rintro m σ' H ⟨W', rfl, w⟩
  obtain ⟨hI, b, ht, h1, h2⟩ := hs m σ' W' w
  refine ht W' (.start hI) _ fun W'' g => ?_
  cases b with
  | true =>
    rw [if_pos rfl]
    exact ⟨fun σ H => ∃ m' W, m' < m ∧ W.H = H ∧ Wm m' σ W, fun σ2 H2 ⟨m', W, hm, e, q⟩ => ⟨m', hm, W, e, q⟩, h1 rfl W'' g⟩
  | false =>
    rw [if_neg Bool.false_ne_true]
    exact h2 rfl W'' g

/-! ### calls of defs -/
theorem ev_callP1 {P R : V → Wd → Prop} {sp : Sp} {E : XK} (ha : EvP ε ta σ W P) (hs : ∀ v W1, Stp ε W W1 → P v W1 → ∀ Q : VK, (∀ u W2, Stp ε W1 W2 → R u W2 → Q u W2.H) → sp [v] W1.H Q E) : EvP ε (tCall sp [] E (tCons ta tNil)) σ W R := fun W1 g1 Q k =>
  ha W1 g1 _ fun v W2 g2 p => hs v W2 (g1.trans g2) p Q fun u W3 g3 r => k u W3 (g2.trans g3) r
theorem ev_callP2 {P P2 R : V → Wd → Prop} {sp : Sp} {E : XK} (ha : EvP ε ta σ W P) (hb : EvP ε tb σ W P2) (mono : ∀ v W W', Stp ε W W' → P v W → P v W')
    (hs : ∀ v v2 W1, Stp ε W W1 → P v W1 → P2 v2 W1 → ∀ Q : VK, (∀ u W2, Stp ε W1 W2 → R u W2 → Q u W2.H) → sp [v, v2] W1.H Q E) : EvP ε (tCall sp [] E (tCons ta (tCons tb tNil))) σ W R := fun W1 g1 Q k =>
  ha W1 g1 _ fun v W2 g2 p => hb W2 (g1.trans g2) _ fun v2 W3 g3 p2 => hs v v2 W3 ((g1.trans g2).trans g3) (mono v W2 W3 g3 p) p2 Q fun u W4 g4 r => k u W4 ((g2.trans g3).trans g4) r
end
end B
/-! B: short names of readings, more derivations -/
namespace B
open PySem L2
open Evl (Ex)
abbrev oAdd : R2 := rI0 fun i j => .int (i + j)
abbrev oSub : R2 := rI0 fun i j => .int (i - j)
abbrev oMul : R2 := rI CMul fun i j => .int (i * j)
abbrev oDiv : R2 := rI CDiv fun i j => .int (i / j)
abbrev oMod : R2 := rI (fun _ j => 0 < j) fun i j => .int (i % j)
abbrev oPow : R2 := rI CPow fun i j => .int (i ^ j.toNat)
abbrev oLt : R2 := rI0 fun i j => .bl (decide (i < j))
abbrev oLe : R2 := rI0 fun i j => .bl (decide (i ≤ j))
abbrev oGt : R2 := rI0 fun i j => .bl (decide (j < i))
abbrev oGe : R2 := rI0 fun i j => .bl (decide (j ≤ i))
abbrev oNeg : V → Hp → VK → Prop := rU fun i => .int (-i)
abbrev oIsN : R2 := fun x y H Q => y = .non ∧ Q (.bl (decide (x = .non))) H
abbrev oNotN : R2 := fun x y H Q => y = .non ∧ Q (.bl (!decide (x = .non))) H
abbrev oCatS : R2 := fun x y H Q => ∃ i j, x = .str i ∧ y = .str j ∧ i.length + j.length ≤ sizeLine ∧ Q (.str (i ++ j)) H
abbrev oLtS : R2 := fun x y H Q => ∃ i j, x = .str i ∧ y = .str j ∧ Q (.bl (decide (i.cps.toList < j.cps.toList))) H
abbrev oInS : R2 := fun x y H Q => ∃ i j, x = .str i ∧ y = .str j ∧ Q (.bl (!(Builtin.Str.occurrences j i 0 j.length 1).isEmpty)) H
abbrev tTru (K : Fg) (ta : TE) : TT := fun σ H Q => ta σ H fun x H' => ∃ k, TruV K x H' k ∧ Q k H'
abbrev rInt1 : List V → Hp → VK → Prop := fun xs H Q => (∃ i, xs = [.int i] ∧ Q (.int i) H) ∨ ∃ k, xs = [.bl k] ∧ Q (.int (if k then 1 else 0)) H
abbrev rTupleO (K : Fg) : List V → Hp → VK → Prop := fun xs H Q => ∃ p ys, xs = [.ref p] ∧ ((SqL K H p ys ∧ ∀ l, H l = none → Q (.ref l) (upd H l (.tup ys))) ∨ (SqT K H p ys ∧ Q (.ref p) H))
abbrev rLenD : List V → Hp → VK → Prop := fun xs H Q => ∃ a kvs, xs = [V.ref a] ∧ H a = some (.dK kvs) ∧ Q (.int kvs.length) H
theorem cr_tupleO {X : Cx} : CallR X (.type "tuple") (rTupleO X.K) := call_tuple_of
theorem cr_lenD {X : Cx} : CallR X (.builtin "len") rLenD := call_lenD

/-! ### name = {k: v for ..} -/
section
variable {X : Cx}
theorem ps_setDc {i : Nat} {y : Str} {py : Pos} {kx vx tg iter : Expr} {ifs : List Expr} {scope : Scope} {own : List (Str × Nat)} {pos spos : Pos} {wi : TI} {g : TG} {tt : TT} {tk tv : TE} (hc : X.calm = true) (hN : X.N.Nodup) (hy : X.N[i]? = some y) (hyl : X.env.scope.names.lookup y = some .local)
    (hsw : swapsWith (.DictComp kx vx [⟨tg, iter, ifs, 0⟩] scope pos) (some (.Name y py)) spos.line X.env = pure true) (hi : PI X tg iter wi) (ok : BlkOk X.N X.env.scope scope own)
    (hg : ∀ (s : Shared) (H : Hp) (C : Addr) (cl : List (Str × Addr)) (fp : List Addr), PG (X.blk s H scope (compEnvC scope cl C X.env) fp) tg g) (ht : ∀ (s : Shared) (H : Hp) (C : Addr) (cl : List (Str × Addr)) (fp : List Addr), PTs (X.blk s H scope (compEnvC scope cl C X.env) fp) ifs tt)
    (hk : ∀ (s : Shared) (H : Hp) (C : Addr) (cl : List (Str × Addr)) (fp : List Addr), PE (X.blk s H scope (compEnvC scope cl C X.env) fp) kx tk)
    (he : ∀ (s : Shared) (H : Hp) (C : Addr) (cl : List (Str × Addr)) (fp : List Addr), PE (X.blk s H scope (compEnvC scope cl C X.env) fp) vx tv) (hs : ∀ x, foldedSetIterable iter X.env x = pure x := by intro _; rfl) :
    PS X (.Assign [.Name y py] (.DictComp kx vx [⟨tg, iter, ifs, 0⟩] scope pos) spos) (tAsg (tDc wi g tt tk tv (own.map (·.2))) (gName i)) := by
  refine ⟨fun pins s σ H D I h => ?_⟩
  rw [exec_Assign_Name_used _ _ _ _ hsw]
  refine wpAny_bind (wpAny_standAt (wpAny_bind ?_))
  show wpAny _ X.A (do let _ ← comprehension (.DictComp kx vx [⟨tg, iter, ifs, 0⟩] scope pos) scope X.env (firstIterPos [⟨tg, iter, ifs, 0⟩] pos) newDict false (eval iter X.env) (some (assign (.Name y py) X.env))) _ _ s
  have h : tDc wi g tt tk tv (own.map (·.2)) σ H (fun x H1 => gName i x σ H1 D.nx) := h
  refine wpAny_bind (thn (dc_core (Qf := fun _ s' => SP X pins D .next s') hc hN I hi ok hg ht hk he hs h fun L C s' m H' I' q hn f => ?_) fun _ s' hq => wpAny_pure (wpAny_pure hq))
  show wpAny _ _ (assign (.Name y py) X.env (.ref L)) _ _ _
  refine wpAny_assign_Name (store_ok2 (v := V.ref L) I' hN hy (.inl hyl) rfl (fun s2 I2 ⟨a, sb, ha⟩ => ?_) (.inr hyl))
  obtain ⟨f0, f1, f2, f3, f4, f5⟩ := f
  have haC : C ≠ a := by
    rcases ha with z | z
    · rw [z]; exact f1
    · exact fun e => f4 y a z e.symm
  refine ⟨m, hn.sameBut sb haC, fun h3 sb3 => ?_⟩
  exact ⟨_, H', I2.turned (t' := s2.toks) (fun b o hb e => (sb3.2 b hb).trans e) f0 f1 f3 f4 f5, q⟩
theorem sw_trueD {kx vx : Expr} {gs : List Comprehension} {scope : Scope} {pos py : Pos} {y : Str} {l : Nat} {env : Env} (hk : env.scope.kind = .function) (hy : env.scope.names.lookup y = some .local) (hl : (py.line == pos.line) = true)
    (ha : (scope.names.any fun (n, k) => n == y && (k == .local || k == .cell)) = false) : swapsWith (.DictComp kx vx gs scope pos) (some (.Name y py)) l env = pure true := by
  have ky : env.kindOf y = some .local := hy
  have hb : env.blockKind = .function := by unfold Env.blockKind; rw [hk]; rfl
  unfold swapsWith
  simp only [hb, ky, ha, Expr.pos, hl]
  rfl
end

/-! ### f(k = v, ..) -/
def perm {ζ : Type} (l : List Nat) (ws : List ζ) : List ζ := l.filterMap fun i => ws[i]?
theorem perm_rel (l : List Nat) {vs : List V} {us : List Value} (r : Vals vs us) : Vals (perm l vs) (perm l us) := by
  induction l with
  | nil => exact .nil
  | cons i l ih =>
    unfold perm
    rw [List.filterMap_cons, List.filterMap_cons]
    cases e : vs[i]? with
    | none =>
      rw [r.none_of e]
      exact ih
    | some v =>
      obtain ⟨u, h1, h2⟩ := r.get e
      rw [h1]
      exact .cons h2 ih
def KwB (K : Fg) (fd : FuncData) (ps ks : List Str) (l : List Nat) : Prop := ∀ (s : Shared) (ws : List Value), K.In s.heap → ws.length = ks.length → BindsTo s fd ⟨[], ks.zip ws⟩ (ps.zip (perm l ws))
theorem kwb_mk {K : Fg} {x qual : Str} {st : Stmt} {f : Addr} {fd : FuncData} {ps ks : List Str} {l : List Nat} (F : Fun K x qual st f fd)
    (h : ∀ (kV doc pm : Value) (an : Option Addr) (cdv ct : Value) (us : List Value), us.length = ks.length → bindArgs (PySem.W.fnOf x qual (defArgs st) (defBody st) (defScope st) .none kV doc pm an cdv ct) ⟨[], ks.zip us⟩ = pure (ps.zip (perm l us))) : KwB K fd ps ks l := by
  obtain ⟨oc, od, kV, doc, pm, an, cdv, ct, osl, rfl, lk, hcd⟩ := F.ex
  exact fun s ws _ hl => .of_eq (h kV doc pm an cdv ct ws hl)
def tCallKw (sp : Sp) (l : List Nat) (m : Nat) (E : XK) (tk : TA) : TE := fun σ H Q => tk σ H fun zs H2 => zs.length = m ∧ sp (perm l zs) H2 Q E
theorem pe_callKw {X : Cx} {CX : CXT} {k : Nat} {f : Addr} {fd : FuncData} {ps ks : List Str} {l : List Nat} {sp : Sp} {E : XK} {x : Str} {p pos : Pos} {kws : List Keyword} {tk : TA} {m : Nat}
    (F : FnOk X.prog X.w X.K X.mg X.base CX k f fd ps sp) (hr : Room k X.A) (hg : Gl X x) (hm : X.mg x = some (.ref f)) (hk : PySem.W.keepIn X.K (.ref f) = true) (hb : KwB X.K fd ps ks l) (hx : Passes CX X E)
    (hkw : PK X kws tk) (hall : (backToKw pos (keywordEach kws X.env)).all (·.1.isSome) = true := by rfl) (hks : (backToKw pos (keywordEach kws X.env)).filterMap (·.1) = ks := by rfl)
    (hm' : m = ks.length := by rfl) (hdb : (x == ("__debug__" : Str)) = false := by decide)
    (hpl : ((backTo pos (starEach [] X.env)).any (·.1) || (backToKw pos (keywordEach kws X.env)).any (·.1.isNone)) = false := by rfl) :
    PE X (.Call (.Name x p) [] kws pos) (tCallKw sp l m E tk) := by
  subst hm'
  refine ⟨fun pins s σ H Q I h => ?_⟩
  refine wpAny_Call_Name_kw (ld_glob I hg hm ?_ hdb)
  refine PySem.W.callWith_KW0 (h₀ := X.base) I.ok.mod.kin hk hall (thn (hkw.run pos pins s σ H _ I h) fun ws s2 ⟨zs, H2, I2, rz, hl, q2⟩ => ⟨I2.kIn, ?_⟩) hpl
  rw [hks]
  have r2 := perm_rel l rz
  refine wpAny_call (codeAny_mono (F.run X.A X.stack s2 H2 ⟨[], ks.zip ws⟩ (perm l ws) (perm l zs) Q E hr I2.env0 (hb s2 ws I2.kIn (by rw [← rz.length]; exact hl)) r2 q2) fun r s' hq => ?_)
  cases r with
  | error e => exact hx pins σ H2 s2 e s' I2 hq
  | ok fl =>
    cases fl with
    | ret u => exact I2.after hq
    | next => exact False.elim hq
    | brk => exact False.elim hq
    | cont => exact False.elim hq
end B
/-! B: rules that the kit has not: zip of a text and a tuple, sum of a tuple, tuple * 1, d.values() as a value -/
namespace B
open PySem L2 PySem.Spec PyProof.Rows
/-! ### zip(text, tuple) -/
def ItzS (K : Fg) (x : Str) (b : Addr) (n : Nat) : It :=
  ⟨fun i H => i < x.cps.size ∧ i < n ∧ ∃ ys : List V, SqT K H b ys ∧ ys.length = n,
    fun i H v H' => ∃ T c y, v = .ref T ∧ H T = none ∧ H' = upd H T (.tup [.str ⟨#[c]⟩, y]) ∧ x.cps[i]? = some c ∧ ∀ ys, SqT K H b ys → ys[i]? = some y,
    fun i H => (x.cps.size ≤ i ∨ n ≤ i) ∧ ∃ ys : List V, SqT K H b ys ∧ ys.length = n⟩
def ZsTn (x : Str) (t : Tok) (b z TI TO i1 i2 : Addr) (n i : Nat) (h : Heap) : Prop := IsZip h z TI TO .none ∧ IsPair h TI (.ref i1) (.ref i2) ∧ (∃ x y, IsPair h TO x y) ∧ h.IsStrIter i1 (strIterType x) x t i ∧ h.IsTupleIter i2 b i ∧ i ≤ x.cps.size ∧ i ≤ n
theorem ti_ne {h : Heap} {i2 b : Addr} {i : Nat} {its : Array Value} (h2 : h.IsTupleIter i2 b i) (p : IsTup h b its) : b ≠ i2 := fun e => by
  obtain ⟨o, ho, hcls, hdat⟩ := id h2
  obtain ⟨o', ho', hc', _⟩ := p
  rw [e, ho] at ho'
  cases ho'
  rw [hcls] at hc'
  have := Value.type.inj hc'
  revert this
  decide
theorem turn_zipS {P : Program} {w : World} {K : Fg} {elts : List Expr} {kk : Nat} {tpos : Pos} {x : Str} {t : Tok} {b z TI TO i1 i2 : Addr} {n : Nat} (D : ZipSep2 z TI TO i1 i2 [i1] [i2, b]) :
    Turn P w K (.Tuple elts kk tpos) (ItzS K x b n) [z, TI, TO, i1, i2] z (ZsTn x t b z TI TO i1 i2 n) where
  mem := by simp
  obj := fun i h st c hc => by
    obtain ⟨hz, hTI, ⟨x, y, hTO⟩, ⟨o1, e1, _, d1⟩, ⟨o2, e2, _, d2⟩, _, _⟩ := st
    simp only [List.mem_cons, List.not_mem_nil, or_false] at hc
    rcases hc with q | q | q | q | q <;> rw [q]
    · exact ⟨_, hz, fun v q => nomatch q⟩
    · exact ⟨_, hTI, fun v q => nomatch q⟩
    · exact ⟨_, hTO, fun v q => nomatch q⟩
    · exact ⟨o1, e1, fun v q => by rw [d1] at q; cases q⟩
    · exact ⟨o2, e2, fun v q => by rw [d2] at q; cases q⟩
  keep := fun i h h' st k => by
    obtain ⟨hz, hTI, ⟨x, y, hTO⟩, ⟨o1, e1, r1⟩, h2, l1, l2⟩ := st
    exact ⟨k z (by simp) _ hz, k TI (by simp) _ hTI, ⟨x, y, k TO (by simp) _ hTO⟩, ⟨o1, k i1 (by simp) _ e1, r1⟩, h2.at fun o q => k i2 (by simp) o q, l1, l2⟩
  item := by
    intro X hP hw hK hc i pins s σ H E I hf st hg
    subst hP hw hK
    obtain ⟨hz, hTI, ⟨x0, y0, hTO⟩, h1, h2, l1, l2⟩ := st
    obtain ⟨g1, g2, ys, hqy, hn⟩ := hg
    obtain ⟨its, rv, p, _⟩ := I.tuple hqy
    have hl : its.length = n := by rw [← rv.length]; exact hn
    have hd : X.A.in1.handled = none := I.ok.hd hc
    refine wpAny_pyNext_zipD2_item D (Draws.text hd i1 x t) (Draws.tuple hd i2 b (ti_ne h2 p) its.toArray) hz hTI hTO h1 ⟨h2, p⟩ g1 (by simpa [hl] using g2) fun u1 u2 h' tk y1 y2 b1 b2 d1 d2 b5 b6 hk => ?_
    have hzl : z < s.heap.objs.size := Heap.lt_size hz
    obtain ⟨c, tc, hcx, rfl⟩ := y1
    obtain ⟨y, hy, ry⟩ : ∃ y, ys[i]? = some y ∧ RelV y u2 := by
      have e2 : its[i]? = some u2 := by simpa using y2
      have hy : ys[i]? = some (ys[i]'(by omega)) := List.getElem?_eq_getElem (by omega)
      obtain ⟨u, e3, r⟩ := rv.get hy
      rw [e2] at e3
      cases e3
      exact ⟨_, hy, r⟩
    refine ⟨_, rfl, wpAny_letOwnedTupleGo_zip (s := { s with heap := h', toks := tk }) b1 fun h'' z'' sb => ?_⟩
    have hT2 : h''.get? s.heap.objs.size = some { cls := .type "tuple", data := .seq #[.str ⟨#[c]⟩ tc, u2] } := (sb.2 _ (Nat.ne_of_gt hzl)).trans b5
    have new : ObjOk X.prog X.w (upd H s.heap.objs.size (.tup [.str ⟨#[c]⟩, y])) h'' s.heap.objs.size (.tup [.str ⟨#[c]⟩, y]) :=
      ⟨by show 2 ≤ sizeLine; decide, [.str ⟨#[c]⟩ tc, u2], .cons ⟨tc, rfl⟩ (.cons ry .nil), ⟨_, hT2, rfl, _, rfl⟩⟩
    have I1 : Inv X pins σ (upd H s.heap.objs.size (.tup [.str ⟨#[c]⟩, y])) { s with heap := h'', toks := tk } :=
      I.turnedNew (t' := tk) (ch := [z, TI, TO, i1, i2]) (fun c o hb q => (sb.2 c (fun q' => hb (by simp [q']))).trans (hk c o (fun q' => hb (by simp [q'])) (fun q' => hb (by simp [q'])) (fun q' => hb (by simp [q'])) (fun q' => hb (by simp [q'])) q)) hf (Nat.le_refl _) new
    refine ⟨.ref s.heap.objs.size, _, I1, rfl, ⟨_, c, y, rfl, I.hok.fresh (Nat.le_refl _), rfl, hcx, fun l hl => by rw [I.tuple_inj hl hqy]; exact hy⟩, ⟨z'', ?_, ⟨Value.str ⟨#[c]⟩ tc, u2, ?_⟩, ?_, ?_, by omega, by omega⟩, fun c hcm => ?_⟩
    · exact (sb.2 _ D.TIz).trans (hk _ _ D.TIz D.TITO D.TIi1 D.TIi2 hTI)
    · exact (sb.2 _ D.TOz).trans b2
    · obtain ⟨o, ho, r⟩ := d1
      exact ⟨o, (sb.2 _ D.zi1.symm).trans ho, r⟩
    · exact d2.1.at fun o q => (sb.2 _ D.zi2.symm).trans q
    · have hlt : c < s.heap.objs.size := by
        simp only [List.mem_cons, List.not_mem_nil, or_false] at hcm
        rcases hcm with q | q | q | q | q <;> rw [q]
        · exact hzl
        · exact Heap.lt_size hTI
        · exact Heap.lt_size hTO
        · obtain ⟨_, e1, _⟩ := h1; exact Heap.lt_size e1
        · obtain ⟨_, e2, _⟩ := h2; exact Heap.lt_size e2
      rw [upd_ne (Nat.ne_of_lt hlt)]
      exact (hf c hcm).1
  done := by
    intro X hP hw hK hc i pins s σ H E I hf st hg
    subst hP hw hK
    obtain ⟨hz, hTI, ⟨x0, y0, hTO⟩, h1, h2, l1, l2⟩ := st
    obtain ⟨hend, ys, hqy, hn⟩ := hg
    obtain ⟨its, rv, p, _⟩ := I.tuple hqy
    have hl : its.length = n := by rw [← rv.length]; exact hn
    have hd : X.A.in1.handled = none := I.ok.hd hc
    have hne : b ≠ i2 := ti_ne h2 p
    have hs : its.toArray.size = n := by simpa using hl
    exact wpAny_pyNext_zipD2_end D (Draws.text hd i1 x t) (Draws.tuple hd i2 b hne its.toArray) hz hTI hTO h1 ⟨h2, p⟩ l1 (by omega) (by omega) fun h' tk hk => ⟨rfl, I.turnedL (t' := tk) (ch := [z, TI, TO, i1, i2]) (fun c o hb q =>
      hk c o (fun q' => hb (by simp [q'])) (fun q' => hb (by simp [q'])) (fun q' => hb (by simp [q'])) (fun q' => hb (by simp [q'])) q) hf⟩
  self := fun A i s Q E st h => wpAny_pyIter_zip st.1 h
theorem zsep {n b : Nat} (h : b < n) : ZipSep2 (n + 4) (n + 2) (n + 3) n (n + 1) [n] [n + 1, b] where
  TIz := Nat.ne_of_lt (by omega)
  TOz := Nat.ne_of_lt (by omega)
  TITO := Nat.ne_of_lt (by omega)
  TIi1 := Nat.ne_of_gt (by omega)
  mem1 := List.mem_cons_self
  zf1 := fun q => absurd (List.mem_singleton.mp q) (Nat.ne_of_gt (by omega))
  Tf1 := fun q => absurd (List.mem_singleton.mp q) (Nat.ne_of_gt (by omega))
  TIi2 := Nat.ne_of_gt (by omega)
  mem2 := List.mem_cons_self
  zf2 := fun q => by rcases List.mem_cons.mp q with e | q; exact absurd e (Nat.ne_of_gt (by omega)); exact absurd (List.mem_singleton.mp q) (Nat.ne_of_gt (by omega))
  Tf2 := fun q => by rcases List.mem_cons.mp q with e | q; exact absurd e (Nat.ne_of_gt (by omega)); exact absurd (List.mem_singleton.mp q) (Nat.ne_of_gt (by omega))
  sep1_2 := fun q => by rcases List.mem_cons.mp q with e | q; exact absurd e (Nat.ne_of_lt (by omega)); exact absurd (List.mem_singleton.mp q) (Nat.ne_of_gt (by omega))
  sep2_1 := fun q => absurd (List.mem_singleton.mp q) (Nat.ne_of_gt (by omega))
def iZipS (K : Fg) (ta : TA) : TI := fun σ H R => ta σ H fun vs H1 => ∃ x b ys, vs = [.str x, .ref b] ∧ SqT K H1 b ys ∧ R (ItzS K x b ys.length) H1
theorem pi_zipS {X : Cx} {e e2 : Expr} {ta : TA} {p pos tpos : Pos} {elts : List Expr} {kk : Nat} (hg : Gl X "zip") (hm : X.mg "zip" = none) (ha : PA X [e, e2] ta)
    (hs : starEach [e, e2] X.env = (false, eval e X.env) :: starEach [e2] X.env := by rfl) (hpl : (backTo pos (starEach [e2] X.env)).any (·.1) = false := by rfl) :
    PI X (.Tuple elts kk tpos) (.Call (.Name "zip" p) [e, e2] [] pos) (iZipS X.K ta) := by
  refine ⟨fun pins s σ H R I h => ?_⟩
  refine Call_ (ld_blt I hg hm PyProof.Rows.boot_zip (PyProof.Rows.callWith_type1 (thn (ha.run pos pins s σ H _ I h) fun us s1 ⟨vs, H1, I1, r1, q1⟩ => ?_) hs hpl))
  obtain ⟨x, b, ys, ex, hqy, q⟩ := q1
  subst ex
  cases r1 with
  | cons r rr =>
    cases rr with
    | cons r' rr =>
      cases rr
      obtain ⟨t, rfl⟩ := r
      cases r'
      obtain ⟨its, rv, p, _⟩ := I1.tuple hqy
      have lb : b < s1.heap.objs.size := by obtain ⟨o, ho, _⟩ := id p; exact Heap.lt_size ho
      refine zip_begins2 (begins_text x t) (begins_tuple b its.toArray) trivial p fun h' hz hTI hTO g1 g2 hsz hk => wpAny_pyIter_zip hz ?_
      have I2 : Inv X pins σ H1 { s1 with heap := h' } := I1.kept (t' := s1.toks) hk
      have fresh5 : ∀ c, c ∈ [s1.heap.objs.size + 4, s1.heap.objs.size + 2, s1.heap.objs.size + 3, s1.heap.objs.size, s1.heap.objs.size + 1] → FpOk X pins H1 c := fun c hcm => by
        have hle : s1.heap.objs.size ≤ c := by
          simp only [List.mem_cons, List.not_mem_nil, or_false] at hcm
          omega
        exact I1.fpOk hle (I1.hok.fresh hle)
      exact ⟨s1.heap.objs.size + 4, [s1.heap.objs.size + 4, s1.heap.objs.size + 2, s1.heap.objs.size + 3, s1.heap.objs.size, s1.heap.objs.size + 1], _, _, H1, rfl, I2, turn_zipS (t := t) (i1 := s1.heap.objs.size) (i2 := s1.heap.objs.size + 1) (TI := s1.heap.objs.size + 2) (TO := s1.heap.objs.size + 3) (zsep lb), ⟨hz, hTI, ⟨_, _, hTO⟩, ⟨_, g1, rfl, rfl⟩, ⟨_, g2, rfl, rfl⟩, Nat.zero_le _, Nat.zero_le _⟩, fresh5, q⟩

/-! ### d.values() as a value -/
def viewHO (v a : Addr) : HO := .ext fun h => h.get? v = some { cls := .type "dict_values", data := .fields #[.ref a] }
def tVals (td : TE) : TE := fun σ H Q => td σ H fun x H1 => ∃ a kvs, x = V.ref a ∧ H1 a = some (.dK kvs) ∧ ∀ v, H1 v = none → Q (.ref v) (upd H1 v (viewHO v a))
section
variable {X : Cx} {o : Expr} {apos mpos : Pos} {td : TE}
theorem pe_vals (hd : PE X o td) (hbase : attributeBase o "values" X.env (eval o X.env) = eval o X.env := by rfl) (hline : (apos.endLine == mpos.line) = true := by rfl) : PE X (.Call (.Attribute o "values" apos) [] [] mpos) (tVals td) := by
  refine ⟨fun pins s σ H Q I h => ?_⟩
  refine wpAny_Call_method0_late hbase hline (thn (hd.run pins s σ H _ I h) fun v s1 ⟨x, H1, I1, r1, a, kvs, ex, ha, q⟩ => ?_)
  subst ex
  obtain rfl : v = Value.ref a := r1
  obtain ⟨_, hsys, vs, rel, dof⟩ := dk_of I1.hok ha
  obtain ⟨ep, dat⟩ := dof.dictAt
  obtain ⟨ob, es, ho, ex, hdat, hko, hpr, hnd⟩ := dat
  refine ⟨"dict", "dict.values", F.plainAttrs_dict, F.slot_dict_values, F.type_dict_values, ⟨ob, ho, ex.1⟩, fun b e => ?_, Calls.callWith_builtin rfl (PySem.evalArgs_none ?_)⟩
  · cases e
    exact ⟨ob, ho, ex.2.1⟩
  refine call_meetsIn F.slot_dict_values ⟨ob, ho, ex.1⟩ F.entry_dict_values (F.args_dict_values_1 _) (meets_dict_values (mixKind X.prog X.w) a hsys) ⟨⟨vs, dof⟩, ?_⟩
  have k1 : ∀ b u, s1.heap.get? b = some u → (s1.heap.push { cls := .type "dict_values", data := .fields #[.ref a] }).get? b = some u := fun b u e => Heap.get?_push_of_some _ e
  have new : ObjOk X.prog X.w (upd H1 s1.heap.objs.size (viewHO s1.heap.objs.size a)) (s1.heap.push { cls := .type "dict_values", data := .fields #[.ref a] }) s1.heap.objs.size (viewHO s1.heap.objs.size a) :=
    ⟨Heap.get?_push_size _ rfl, ⟨_, Heap.get?_push_size _ rfl⟩, fun h1 h2 e k => k _ e⟩
  exact ⟨.ref _, _, I1.laid (t' := s1.toks) k1 (Nat.le_refl _) new, rfl, q _ (I1.hok.fresh (Nat.le_refl _))⟩
/-- the ints of a dict's values, by the view -/
theorem view_at {pins : List (Addr × Obj)} {s : Shared} {σ : L2.St} {H : Hp} (I : L2.Inv X pins σ H s) {v a : Addr} {kvs : List (Key × V)} {is : List Int} (hv : H v = some (viewHO v a)) (ha : H a = some (.dK kvs)) (hi : kvs.map (·.2) = is.map V.int) :
    ∃ vs ep, s.heap.get? v = some { cls := .type "dict_values", data := .fields #[.ref a] } ∧ s.heap.DictAt (mixKind X.prog X.w) a vs ep ∧ vs.length = is.length ∧ kvs.length ≤ sizeLine ∧ ∀ (i : Nat) (u : Value), (∃ k, vs[i]? = some (k, u)) → ∃ x t, is[i]? = some x ∧ u = Value.int x t := by
  obtain ⟨e, _, _⟩ := I.hok v _ hv
  obtain ⟨z, hsys, vs, rel, dof⟩ := dk_of I.hok ha
  obtain ⟨ep, dat⟩ := dof.dictAt
  refine ⟨vs, ep, e, dat, ?_, z, fun i u ⟨k, hk⟩ => ?_⟩
  · have e1 := congrArg List.length hi
    rw [List.length_map, List.length_map] at e1
    rw [← e1]
    exact (KV.length rel).symm
  · obtain ⟨x, h1, h2⟩ := KV.at' rel hk
    have e1 : (kvs.map (·.2))[i]? = some x := by rw [List.getElem?_map, h1] <;> rfl
    rw [hi, List.getElem?_map] at e1
    obtain ⟨j, hj, e2⟩ := Option.map_eq_some_iff.mp e1
    subst e2
    obtain ⟨t, e3⟩ := h2
    exact ⟨j, t, hj, e3⟩
/-- sum(d.values()) -/
def rSumV : List V → Hp → VK → Prop := fun vs H Q => ∃ (v a : Addr) (kvs : List (Key × V)) (is : List Int), vs = [V.ref v] ∧ H v = some (viewHO v a) ∧ H a = some (.dK kvs) ∧ kvs.map (·.2) = is.map V.int ∧ Q (.int is.sum) H
theorem preSum_getD (is : List Int) : ∀ n, n ≤ is.length → preSum (fun i => is.getD i 0) n = (is.take n).sum
  | 0, _ => by simp [preSum]
  | n + 1, h => by
    show preSum _ n + is.getD n 0 = _
    rw [preSum_getD is n (by omega), List.take_add_one, List.getElem?_eq_getElem (by omega), List.sum_append]
    simp [List.getD_eq_getElem?_getD, List.getElem?_eq_getElem (show n < is.length by omega)]
theorem cr_sumV (hc : X.calm = true) : CallR X (.builtin "sum") rSumV := by
  intro pins s σ H xs us Q I r h
  obtain ⟨v, a, kvs, is, rfl, hv, ha, hi, q⟩ := h
  obtain rfl := Vals.ref1 r
  obtain ⟨vs, ep, e, dat, hl, _, hval⟩ := view_at I hv ha hi
  refine call_sum_walkAnyS ?_
  obtain ⟨oI, St, hit, W, st⟩ := (PySem.W.kdl_values (prog := X.prog) (w := X.w) (knd := mixKind X.prog X.w) (d := a) (r := v) (kvs := vs) (ep := ep)).iter X.A.in1 s (I.ok.hd hc) ⟨⟨_, e, rfl, rfl⟩, dat⟩
  refine hit _ _ ⟨s.heap.objs.size, _, _, _, vs.length, _, _, fun i => is.getD i 0, rfl, W.toS, st, fun b hb => ?_, fun i u hu => ?_, fun s' t' hm => ?_⟩
  · show b < (s.heap.push oI).objs.size
    rw [Heap.size_push]
    rcases List.mem_cons.mp hb with e' | hb
    · rw [e']; exact Nat.lt_succ_self _
    · rw [List.mem_singleton.mp hb]; exact Nat.lt_succ_of_lt (by obtain ⟨ob, es, ho, _⟩ := id dat; exact Heap.lt_size ho)
  · obtain ⟨x, t, h1, h2⟩ := hval i u hu
    exact ⟨t, by rw [h2]; show Value.int x t = Value.int (is.getD i 0) t; rw [List.getD_eq_getElem?_getD, h1]; rfl⟩
  · have hk : ∀ b o, s.heap.get? b = some o → s'.heap.get? b = some o := fun b o e =>
      hm.heap b o (fun hI => absurd (Heap.lt_size e) (by rw [List.mem_singleton.mp hI]; exact Nat.lt_irrefl _)) (Heap.get?_push_of_some _ e)
    rw [Moved.eq_with hm]
    refine ⟨.int is.sum, H, I.kept hk, ⟨t', ?_⟩, q⟩
    rw [hl, preSum_getD is _ (Nat.le_refl _), List.take_length]
end

/-! ### sorted(d.values(), reverse=True) -/
section
variable {X : Cx}
def rSortedVR : List V → List V → Hp → VK → Prop := fun vs zs H Q => ∃ (v a : Addr) (kvs : List (Key × V)) (is : List Int), vs = [V.ref v] ∧ zs = [.bl true] ∧ H v = some (viewHO v a) ∧ H a = some (.dK kvs) ∧ kvs.map (·.2) = is.map V.int ∧
  ∀ (ns' : List Int) (p : Addr), ns'.Perm is → OrdB true ns' → H p = none → Q (.ref p) (upd H p (.lst (ns'.map V.int)))
theorem cr_sortedVR (hc : X.calm = true) : CallRK X (.builtin "sorted") [Str.ofString "reverse"] rSortedVR := by
  intro pins s σ H xs zs us ws Q I r rz h
  obtain ⟨v, a, kvs, is, rfl, rfl, hv, ha, hi, q⟩ := h
  obtain rfl := Vals.ref1 r
  obtain ⟨w1, rfl, e1⟩ := vals1 rz
  obtain rfl : w1 = Value.bool true := e1
  obtain ⟨vs, ep, e, dat, hl, hz, hval⟩ := view_at I hv ha hi
  have hz2 : vs.length ≤ sizeLine := by
    rw [hl]
    have := congrArg List.length hi
    rw [List.length_map, List.length_map] at this
    rw [← this]; exact hz
  refine call_function_entry_kw kind_sorted plain_sorted entry_sorted (PyProof.Rows.args_sorted_rev _ _) ?_
  unfold Builtin.«sorted»
  refine wpAny_bind (m := checkCount "sorted" 1 1 _) (wpAny_pure ?_)
  refine wpAny_bind (PySem.W.kdu_collect (A := X.A.in1) (PySem.W.kdl_values (prog := X.prog) (w := X.w) (knd := mixKind X.prog X.w) (d := a) (r := v) (kvs := vs) (ep := ep)) (I.ok.hd hc) ⟨⟨_, e, rfl, rfl⟩, dat⟩ hz2 fun h' tk acc hk hacc => ?_)
  have hal : acc.toList.length = is.length := by rw [Array.length_toList, hacc.1, hl]
  have hS : IntsAre acc.toList is := ints_each hal fun j u e => hval j u (hacc.2 j u (by rw [← Array.getElem?_toList]; exact e))
  have I1 : Inv X pins σ H { s with heap := h', toks := tk } := I.kept hk
  refine wpAny_bind (wpAny_newList ?_ (by rw [hal, ← hl]; exact hz2))
  have hoL : (h'.push (seqObj "list" acc.toList.toArray 0)).get? h'.objs.size = some (seqObj "list" acc.toList.toArray 0) := Heap.get?_push_size _ rfl
  show wpAny _ _ _ _ _ { s with heap := h'.push (seqObj "list" acc.toList.toArray 0), toks := tk }
  refine wpAny_bind (wpAny_holding (wpAny_call_entry_kw slot_list_sort ⟨_, hoL, rfl⟩ entry_list_sort ?_ (PyProof.Rows.args_list_sort_rev _ _)))
  refine SrtR.list_sort_ordR (b := true) SrtO.swo_int hoL (by rw [hal, ← hl]; exact hz2) (fun h2 => SrtO.ints_sortable hS h2) fun out h1 h2 => ⟨_, rfl, ?_⟩
  obtain ⟨ns', k1, k2, k3⟩ := SrtR.ints_outR (b := true) hS h1 h2
  obtain ⟨e', he'⟩ := PyProof.Rows.sortedHeap_at (vs := acc.toList) (out := out.toArray.reverse) hoL
  have hlen : (ns'.map V.int).length ≤ sizeLine := by
    rw [List.length_map, k2.length_eq, ← hl]
    exact hz2
  refine wpAny_pure ⟨_, rfl, .ref h'.objs.size, upd H h'.objs.size (.lst (ns'.map V.int)), I1.laid (t' := tk) (fun b u e => ?_) (Nat.le_refl _)
    (show ObjOk X.prog X.w _ _ _ (.lst (ns'.map V.int)) from ⟨hlen, out.toArray.reverse.toList, e', vals_of_ints k1, by rw [Array.toArray_toList]; exact he'⟩), rfl, q ns' _ k2 k3 (I1.hok.fresh (Nat.le_refl _))⟩
  have hb : b < h'.objs.size := Heap.lt_size e
  show (sortedHeap _ _ _ out.toArray.reverse).get? b = _
  rw [PyProof.Rows.sortedHeap_old (Nat.ne_of_lt hb) (by rw [size_push']; exact Nat.lt_succ_of_lt hb)]
  exact Heap.get?_push_of_some _ e
/-! ### sum(tuple) -/
def rSumT (K : Fg) : List V → Hp → VK → Prop := fun vs H Q => ∃ (a : Addr) (ns : List Int), vs = [V.ref a] ∧ SqT K H a (ns.map V.int) ∧ Q (.int ns.sum) H
theorem cr_sumT (hc : X.calm = true) : CallR X (.builtin "sum") (rSumT X.K) := by
  intro pins s σ H xs us Q I r h
  obtain ⟨a, ns, rfl, hs, q⟩ := h
  obtain ⟨its, rv, hl, _⟩ := I.tuple hs
  obtain rfl := Vals.ref1 r
  have hi := rv.ints
  obtain ⟨xs, hx⟩ := hi.allInts.items
  have hn : numsOf its.toArray.toList = ns := by rw [show its.toArray.toList = its from rfl, hi.numsOf]
  have hl' : s.heap.IsTuple a its.toArray := hl
  rw [hx] at hl' hn
  rw [nums_intItems] at hn
  refine PySem.W.ktm_sumG (I.ok.hd hc) hl' fun h' tk t' hk => ⟨.int ns.sum, H, I.kept hk, ⟨t', ?_⟩, q⟩
  rw [preSum_eq, List.take_of_length_le (by simp), hn]
/-! ### tuple * k, k from 1 on -/
theorem tuple_mul1 (l : Addr) (items : Array Value) (n : Nat) (dd : Option Addr) (sl : Array (Option Value)) (u : Tok) :
    Meets (Builtin.«tuple.__mul__» ⟨[.ref l, .int 1 u], []⟩) (fun _ R s => s.heap.get? l = some { cls := .type "tuple", dict := dd, data := .seq items n, slots := sl } ∧ R (.ok (.ret (Value.ref l))) s) :=
  .of_wp fun prog w A R s h => by
    obtain ⟨hp, g, d, tk, os⟩ := s
    obtain ⟨hl, h⟩ := h
    have f1 := AutoSeq1.idx_int
    have hT : (⟨hp, g, d, tk, os⟩ : Shared).TypeIs (.ref l) "tuple" := ⟨_, hl, rfl⟩
    wp_walk using wpAny_loadPart' hl
    exact ⟨_, rfl, h⟩
def rRepT1 (K : Fg) : R2 := fun x y H Q => ∃ l k xs, x = .ref l ∧ y = .int k ∧ SqT K H l xs ∧ xs ≠ [] ∧ 1 ≤ k ∧ k ≤ 1000 ∧ xs.length ≤ 1000 ∧ (k = 1 → Q (.ref l) H) ∧ (2 ≤ k → ∀ p, H p = none → Q (.ref p) (upd H p (.tup (List.replicate k.toNat xs).flatten)))
theorem op_repT1 : OpR X (binaryOp .Mult) (rRepT1 X.K) := by
  intro pins s σ H x y v u Q I rx ry h
  obtain ⟨l, k, xs, rfl, rfl, hT, hne, h1, h2, hz, q1, q2⟩ := h
  by_cases hk : k = 1
  · cases rx
    obtain ⟨t, rfl⟩ := ry
    subst hk
    obtain ⟨its, r, ⟨⟨cls, dd, data, sl⟩, ho, hc, n, hd⟩, hs⟩ := I.tuple hT
    simp only at hc hd
    subst hc hd
    exact wpAny_binaryOp_repeat_ref (T := "tuple") (U := "int") (by decide) ⟨_, ho, rfl⟩ (fun s' => typeIs_int s' 1 t) noFill_tuple_mul F.fills_int_mul F.slot_int_rmul repeat_tuple F.slot_int_index.lookup
      (call_meets F.slot_int_rmul (typeIs_int s 1 t) F.entry_int_rmul (F.args_int_rmul_2 _ _) (int_rmul_tuple 1 t l its.toArray n dd sl)
        ⟨ho, rfl, ⟨_, ho, rfl⟩, call_meets F.slot_tuple_mul ⟨_, ho, rfl⟩ F.entry_tuple_mul (F.args_tuple_mul_2 _ _) (tuple_mul1 l its.toArray n dd sl t) ⟨ho, .ref l, H, I, rfl, q1 rfl⟩⟩)
  · exact op_repT pins s σ H _ _ v u Q I rx ry ⟨l, k, xs, rfl, rfl, hT, hne, by omega, h2, hz, q2 (by omega)⟩
end
end B
/-! B: the layer over the rules of Bt; dicts that change -/
namespace B
open PySem L2
open PySem.W (Tup T3 T4 Datum DatumOrd)
open Evl (Ex)
section
variable {α β γ : Type} [Py α] [Py β] [Py γ] {K : Fg} {σ : SS} {W W' : Wd} {v : V} {te ta tb : TE} {ε : Ef}
theorem ro_cat {xs ys : List α} (hl : xs.length + ys.length ≤ 100000) : RO K rCat xs ys (xs ++ ys) := fun v u W1 ⟨a, vs, e, s, r⟩ ⟨b, us, e', s', r'⟩ Q k =>
  ⟨a, b, vs, us, e, e', W1.sub.el s, W1.sub.el s', Evl.sz_of (by rw [Reps.len r, Reps.len r']; exact hl), fun p hp =>
    k _ (W1.add p _) (W1.grow_add hp) ⟨p, _, rfl, upd_same, Reps.app (Reps.mono (exExt (W1.grow_add hp).b) r) (Reps.mono (exExt (W1.grow_add hp).b) r')⟩⟩
theorem reps_nil {H : Hp} {vs : List V} {xs : List α} (r : Reps K H vs xs) (h : vs = []) : xs = [] := by
  cases r with
  | nil => rfl
  | cons a b => cases h
theorem ro_catT {xs ys : Tup α} (hl : xs.items.length + ys.items.length ≤ 100000) : RO K (rCatA K) xs ys (Tup.mk (xs.items ++ ys.items)) := fun v u W1 ⟨a, vs, e, s, r⟩ ⟨b, us, e', s', r'⟩ Q k =>
  ⟨a, b, vs, us, e, e', SqT.of (W1.sub.et s), SqT.of (W1.sub.et s'), Evl.sz_of (by rw [Reps.len r, Reps.len r']; exact hl),
    fun h0 => k _ W1 (.refl _ _) ⟨b, us, rfl, s', by rw [reps_nil r h0]; exact r'⟩,
    fun _ h0 => k _ W1 (.refl _ _) ⟨a, vs, rfl, s, by rw [reps_nil r' h0, List.append_nil]; exact r⟩,
    fun _ _ p hp => k _ (W1.add p _) (W1.grow_add hp) ⟨p, _, rfl, upd_same, Reps.app (Reps.mono (exExt (W1.grow_add hp).b) r) (Reps.mono (exExt (W1.grow_add hp).b) r')⟩⟩
theorem rc_sumT {xs : Tup Int} : RC1 K (rSumT K) xs xs.items.sum := fun v W1 ⟨a, vs, e, s, r⟩ Q k => ⟨a, xs.items, by rw [e], by rw [← reps_int r]; exact SqT.of (W1.sub.et s), k _ W1 (.refl _ _) rfl⟩
theorem reps_rep {H : Hp} {vs : List V} {xs : List α} (r : Reps K H vs xs) : ∀ n : Nat, Reps K H (List.replicate n vs).flatten (List.replicate n xs).flatten
  | 0 => .nil
  | n + 1 => by
    rw [List.replicate_succ, List.replicate_succ, List.flatten_cons, List.flatten_cons]
    exact Reps.app r (reps_rep r n)
theorem ro_repT {xs : Tup α} {n : Int} (hne : xs.items ≠ []) (h1 : 1 ≤ n) (h2 : n ≤ 1000) (hl : xs.items.length ≤ 1000) : RO K (rRepT1 K) xs n (Tup.mk (List.replicate n.toNat xs.items).flatten) := fun v u W1 ⟨a, vs, e, s, r⟩ ru Q k =>
  ⟨a, n, vs, e, ru, SqT.of (W1.sub.et s), fun z => hne (reps_nil r z), h1, h2, by rw [Reps.len r]; exact hl, fun h => k _ W1 (.refl _ _) ⟨a, vs, rfl, s, by
      subst h
      simpa using r⟩, fun _ p hp => k _ (W1.add p _) (W1.grow_add hp) ⟨p, _, rfl, upd_same, Reps.mono (exExt (W1.grow_add hp).b) (reps_rep r _)⟩⟩
theorem rc_tupL {xs : List α} : RC1 K (rTupleO K) xs (Tup.mk xs) := fun v W1 ⟨a, vs, e, s, r⟩ Q k => ⟨a, vs, by rw [e], .inl ⟨SqL.of (W1.sub.el s), fun l hl =>
  k _ (W1.add l (.tup vs)) (W1.grow_add hl) ⟨l, vs, rfl, upd_same, Reps.mono (exExt (W1.grow_add hl).b) r⟩⟩⟩
/-- zip of two tuples -/
theorem ei_zipT {xs : Tup α} {ys : Tup β} (ha : EvR ε K ta σ W xs) (hb : EvR ε K tb σ W ys) : EvJ ε K (RZ.iZipA K (tCons ta (tCons tb tNil))) σ W (xs.items.zip ys.items) := fun W1 g1 R k => ha W1 g1 _ fun v W2 g2 r1 => hb W2 (g1.trans g2) _ fun u W3 g3 r2 => by
  obtain ⟨a, vs, e, s, r⟩ := rep_s g3 r1
  obtain ⟨b, us, e', s', r'⟩ := r2
  refine ⟨a, b, vs, us, by rw [e, e'], .inr ⟨SqT.of (W3.sub.et s), SqT.of (W3.sub.et s'), k (RZ.ItzT K a b) W3 (g2.trans g3) ⟨fun i W' o hi => ?_, fun i W' v H'' o hi ⟨T, x, y, e1, hT, e2, e3, e4⟩ => ?_, fun i W' o hi => ?_⟩⟩⟩
  · have hi' : i < xs.items.length ∧ i < ys.items.length := by simp at hi; omega
    obtain ⟨x, hx⟩ : ∃ x, xs.items[i]? = some x := ⟨xs.items[i], by simp [hi'.1]⟩
    obtain ⟨y, hy⟩ : ∃ x, ys.items[i]? = some x := ⟨ys.items[i], by simp [hi'.2]⟩
    obtain ⟨v, h1, _⟩ := Reps.get' r hx
    obtain ⟨u, h2, _⟩ := Reps.get' r' hy
    exact ⟨vs, us, v, u, SqT.of (W'.sub.et (o.b _ _ s)), SqT.of (W'.sub.et (o.b _ _ s')), h1, h2⟩
  · obtain ⟨p, h1, h2⟩ := Reps.get r (e3 vs (SqT.of (W'.sub.et (o.b _ _ s))))
    obtain ⟨q, h3, h4⟩ := Reps.get r' (e4 us (SqT.of (W'.sub.et (o.b _ _ s'))))
    refine ⟨(p, q), W'.add T _, e2.symm, W'.grow_add hT, ?_, T, x, y, e1, upd_same, rep_g (W'.grow_add hT) (rex o.b h2), rep_g (W'.grow_add hT) (rex o.b h4)⟩
    rw [List.getElem?_zip_eq_some]
    exact ⟨h1, h3⟩
  · refine ⟨vs, us, SqT.of (W'.sub.et (o.b _ _ s)), SqT.of (W'.sub.et (o.b _ _ s')), ?_⟩
    rw [Reps.len r, Reps.len r']
    simp at hi
    omega
def signs (x : Str) : List Str := x.cps.toList.map fun c => ⟨#[c]⟩
/-- zip of a text and a tuple -/
theorem ei_zipS {x : Str} {ys : Tup β} (ha : EvR ε K ta σ W x) (hb : EvR ε K tb σ W ys) : EvJ ε K (iZipS K (tCons ta (tCons tb tNil))) σ W ((signs x).zip ys.items) := fun W1 g1 R k => ha W1 g1 _ fun v W2 g2 r1 => hb W2 (g1.trans g2) _ fun u W3 g3 r2 => by
  have e : v = .str x := r1
  obtain ⟨b, us, e', s', r'⟩ := r2
  have hl := Reps.len r'
  have hs : (signs x).length = x.cps.size := by simp [signs]
  refine ⟨x, b, us, by rw [e, e'], SqT.of (W3.sub.et s'), k (ItzS K x b us.length) W3 (g2.trans g3) ⟨fun i W' o hi => ?_, fun i W' v H'' o hi ⟨T, c, y, e1, hT, e2, e3, e4⟩ => ?_, fun i W' o hi => ?_⟩⟩
  · rw [List.length_zip, hs] at hi
    exact ⟨by omega, by omega, us, SqT.of (W'.sub.et (o.b _ _ s')), rfl⟩
  · obtain ⟨q, h3, h4⟩ := Reps.get r' (e4 us (SqT.of (W'.sub.et (o.b _ _ s'))))
    refine ⟨(⟨#[c]⟩, q), W'.add T _, e2.symm, W'.grow_add hT, ?_, T, _, y, e1, upd_same, rfl, rep_g (W'.grow_add hT) (rex o.b h4)⟩
    rw [List.getElem?_zip_eq_some]
    refine ⟨?_, h3⟩
    unfold signs
    rw [List.getElem?_map, Array.getElem?_toList, e3]
    rfl
  · rw [List.length_zip, hs] at hi
    exact ⟨by omega, us, SqT.of (W'.sub.et (o.b _ _ s')), rfl⟩
theorem kreps_ints {κ : Type} [PyKey κ] {H : Hp} {ks : List (Key × V)} {kv : List (κ × Int)} (r : KReps K H ks kv) : ks.map (·.2) = (kv.map (·.2)).map V.int := by
  induction r with
  | nil => rfl
  | cons a b ih => rw [List.map_cons, List.map_cons, List.map_cons, ih, show _ = _ from a.2]
/-- sorted(d.values(), reverse=True): what falls with the same items -/
theorem ev_sortedVR {κ : Type} [PyKey κ] {d : Dict κ Int} {ys : List Int} (h : EvD ε K te σ W d) (hp : ys.Perm (d.kv.map (·.2))) (ho : ys.Pairwise (· ≥ ·)) : EvR ε K (tCKw rSortedVR (tCons (tVals te) tNil) (tCons (tC (.bl true)) tNil)) σ W ys := fun W1 g1 Q k => h W1 g1 _ fun v W2 g2 ⟨a, ks, e, hB, hH, r⟩ =>
  ⟨a, ks, e, hH, fun w hw => by
    have ne : a ≠ w := fun z => by rw [z, hw] at hH; cases hH
    have gw := W2.grow_put (o := viewHO w a) hw
    refine ⟨w, a, ks, d.kv.map (·.2), rfl, rfl, upd_same, (upd_ne ne).trans hH, kreps_ints r, fun ns' p h1 h2 hp0 => ?_⟩
    have e2 : ns' = ys := (h1.trans hp.symm).eq_of_pairwise (fun a b _ _ h h' => Int.le_antisymm h' h) (show ns'.Pairwise (· ≥ ·) from h2) ho
    subst e2
    exact k _ ((W2.put w _ (W2.free hw)).add p _) ((g2.and gw).and (Wd.grow_add _ hp0)) ⟨p, _, rfl, upd_same, int_reps _⟩⟩
theorem ev_sumV {κ : Type} [PyKey κ] {d : Dict κ Int} (h : EvD ε K te σ W d) : EvR ε K (tCB rSumV (tCons (tVals te) tNil)) σ W (d.kv.map (·.2)).sum := fun W1 g1 Q k => h W1 g1 _ fun v W2 g2 ⟨a, ks, e, hB, hH, r⟩ =>
  ⟨a, ks, e, hH, fun w hw => by
    have ne : a ≠ w := fun z => by rw [z, hw] at hH; cases hH
    exact ⟨w, a, ks, d.kv.map (·.2), rfl, upd_same, (upd_ne ne).trans hH, kreps_ints r, k _ (W2.put w _ (W2.free hw)) (g2.and (W2.grow_put hw)) rfl⟩⟩
end
/-- what is new may change unseen -/
theorem Md.fresh {S : List Addr} {W W1 W2 : Wd} {d : Addr} (a : Md S W W1) (b : Md (d :: S) W1 W2) (f : W.H d = none) : Md S W W2 := ⟨a.b.trans b.b, fun x o h1 h2 => b.l x o (a.b x o h1) (a.l x o h1 h2), fun x o h1 h2 => b.o x o (fun z => by
    rcases List.mem_cons.mp z with e | z
    · rw [e, f] at h2; cases h2
    · exact h1 z) (a.o x o h1 h2), fun x hx => by rw [b.m x (a.n x hx), a.m x hx], fun x hx => b.d x (a.d x hx), fun x hx => b.n x (a.n x hx)⟩
/-! ### dicts that change -/
structure DMut {κ α : Type} [PyKey κ] [Py α] (K : Fg) (W : Wd) (d : Addr) (kv : List (κ × α)) : Prop where
  b : W.B d = none
  ex : ∃ ks, W.H d = some (.dK ks) ∧ KReps K W.B ks kv
section
variable {κ α : Type} [DecidableEq κ] [PyKey κ] [Py α] {K : Fg} {W W' : Wd} {d : Addr} {kv : List (κ × α)} {ε : Ef} {σ : SS} {S : List Addr} {ty tv tx te : TE}
theorem DMut.nt (m : DMut K W d kv) : Nt W.H d := by
  obtain ⟨ks, e, _⟩ := m.ex
  exact .k e
theorem DMut.g (m : DMut K W d kv) (g : Md S W W') (h : d ∉ S) : DMut K W' d kv := by
  obtain ⟨ks, e, r⟩ := m.ex
  have := g.mut h e m.b
  exact ⟨this.2, ks, this.1, KReps.mono (exExt g.b) r⟩
theorem DMut.gr (m : DMut K W d kv) (g : Grow W W') : DMut K W' d kv := m.g g (by simp)
theorem DMut.s (m : DMut K W d kv) (g : Stp ε W W') (h : d ∉ ε.S) : DMut K W' d kv := m.g g.md h
theorem DMut.new (W : Wd) {d : Addr} (h : W.H d = none) : DMut K (W.put d (.dK []) (W.free h)) d ([] : List (κ × α)) := ⟨W.free h, [], upd_same, .nil⟩
/-- d[k] = v -/
theorem s_dput {D : Ends} {i : Nat} {k : κ} {x : α} (hd : σ[i]? = some (some (.ref d))) (m : DMut K W d kv) (hv : EvR pur K tv σ W x) (hk : EvP pur ty σ W (fun u _ => u = kV (PyKey.key k))) (hl : kv.length < 100000)
    (q : ∀ W', Md [d] W W' → On W W' → DMut K W' d (kput kv k x) → D.nx σ W'.H) : sDPut (tVar i) ty tv D σ W.H := hv W (.start trivial) _ fun v W1 g1 rv => ⟨.ref d, hd, hk W1 g1 _ fun u W2 g2 e => by
  have g := (g1.trans g2).pure
  obtain ⟨ks, e1, r⟩ := (m.gr g).ex
  have b := (m.gr g).b
  refine ⟨d, _, rfl, .inl ⟨ks, PyKey.key k, e1, e, by rw [KReps.len r]; exact Evl.sz_lt hl, rfl⟩, q (W2.put d _ b) ((Grow.s g).trans (md_put b)) (g.on.trans (md_put b).on) ⟨b, _, upd_same, KReps.put r k (rep_s g2 rv)⟩⟩⟩
theorem ek_of [Py κ] {k : κ} (hv : ∀ {H : Hp} {v : V}, rep K H v k → v = kV (PyKey.key k)) (h : EvR ε K te σ W k) : EvP ε te σ W (fun u _ => u = kV (PyKey.key k)) := fun W1 g1 Q q => h W1 g1 _ fun v W2 g2 r => q v W2 g2 (hv r)
theorem ek_int {n : Int} (h : EvR ε K te σ W n) : EvP ε te σ W (fun u _ => u = kV (PyKey.key n)) := ek_of (fun r => r) h
theorem ek_str {n : Str} (h : EvR ε K te σ W n) : EvP ε te σ W (fun u _ => u = kV (PyKey.key n)) := ek_of (fun r => r) h
theorem klk {H : Hp} {ks : List (Key × V)} (r : KReps K H ks kv) (k : κ) : (klook kv k = none ∧ valV ks (PyKey.key k) = none) ∨ ∃ x v, klook kv k = some x ∧ valV ks (PyKey.key k) = some v ∧ rep K H v x := by
  cases e : klook kv k with
  | none => exact .inl ⟨rfl, r.none e⟩
  | some x =>
    obtain ⟨v, h1, h2⟩ := r.some e
    exact .inr ⟨x, v, rfl, h1, h2⟩
/-- d.get(k, x) -/
theorem ev_dget2 {i : Nat} {k : κ} {x : α} (hd : σ[i]? = some (some (.ref d))) (m : DMut K W d kv) (hS : d ∉ ε.S) (hk : EvP ε ty σ W (fun u _ => u = kV (PyKey.key k))) (hx : EvR ε K tx σ W x) : EvR ε K (tDGet2 (tVar i) ty tx) σ W ((klook kv k).getD x) := fun W1 g1 Q q => by
  obtain ⟨ks, e1, r⟩ := (m.s g1 hS).ex
  refine ⟨_, hd, d, rfl, .inl ⟨ks, .inl e1⟩, hk W1 g1 _ fun u W2 g2 eu => hx W2 (g1.trans g2) _ fun w W3 g3 rw => ?_⟩
  obtain ⟨ks, e3, r⟩ := (m.s ((g1.trans g2).trans g3) hS).ex
  rcases klk r k with ⟨h1, h2⟩ | ⟨y, v, h1, h2, h3⟩
  · exact ⟨none, .inl ⟨ks, _, .inl e3, eu, h2.symm⟩, q _ W3 (g2.trans g3) (by rw [h1]; exact rw)⟩
  · exact ⟨some v, .inl ⟨ks, _, .inl e3, eu, h2.symm⟩, q _ W3 (g2.trans g3) (by rw [h1]; exact h3)⟩
/-- it shall stay -/
theorem DMut.fix (m : DMut K W d kv) : ∃ o, ∃ h : W.H d = some o, DictAt K (W.fix d o h) (.ref d) ⟨kv⟩ ∧ Ex W.B (W.fix d o h).B ∧ ∀ W0 S, Md S W0 W → W0.H d = none → Md S W0 (W.fix d o h) := by
  obtain ⟨ks, e, r⟩ := m.ex
  exact ⟨_, e, ⟨d, ks, rfl, upd_same, e, KReps.mono (exExt (ex_fix e m.b)) r⟩, ex_fix e m.b, fun W0 S g f => md_fix g e m.b f⟩
end
/-! ### dicts with tuples of ints as keys -/
structure TMut (W : Wd) (d : Addr) (ks : List (List Key)) : Prop where
  b : W.B d = none
  ex : ∃ kvs, W.H d = some (.dT kvs) ∧ kvs.map (·.1) = ks
section
variable {W W' : Wd} {d : Addr} {ks : List (List Key)} {S : List Addr} {K : Fg} {σ : SS} {ty tv te : TE} {ε : Ef}
theorem TMut.nt (m : TMut W d ks) : Nt W.H d := by
  obtain ⟨k, e, _⟩ := m.ex
  exact ⟨_, e, fun _ z => by cases z⟩
theorem TMut.g (m : TMut W d ks) (g : Md S W W') (h : d ∉ S) : TMut W' d ks := by
  obtain ⟨k, e, r⟩ := m.ex
  have := g.mut h e m.b
  exact ⟨this.2, k, this.1, r⟩
theorem TMut.gr (m : TMut W d ks) (g : Grow W W') : TMut W' d ks := m.g g (by simp)
def tput (ks : List (List Key)) (k : List Key) : List (List Key) := if (ks.any fun x => decide (x = k)) = true then ks else ks ++ [k]
theorem tput_keys (kvs : List (List Key × V)) (k : List Key) (v : V) : (putK kvs k v).map (·.1) = tput (kvs.map (·.1)) k := by
  unfold putK tput
  have : (kvs.any fun kv => decide (kv.1 = k)) = ((kvs.map (·.1)).any fun x => decide (x = k)) := by
    rw [List.any_map]
    rfl
  by_cases h : (kvs.any fun kv => decide (kv.1 = k)) = true
  · rw [if_pos h, if_pos (this ▸ h), List.map_map]
    refine List.map_congr_left fun q _ => ?_
    show (if q.1 = k then (q.1, v) else q).1 = q.1
    split <;> rfl
  · rw [if_neg h, if_neg (fun z => h (this ▸ z)), List.map_append]
    rfl
theorem tput_mem {ks : List (List Key)} {k j : List Key} : j ∈ tput ks k ↔ j ∈ ks ∨ j = k := by
  unfold tput
  split
  · rename_i h
    obtain ⟨x, hx, e⟩ := List.any_eq_true.mp h
    have e' : x = k := of_decide_eq_true e
    exact ⟨.inl, fun z => z.elim id fun e => by rw [e, ← e']; exact hx⟩
  · simp
theorem tput_len (ks : List (List Key)) (k : List Key) : (tput ks k).length ≤ ks.length + 1 := by
  unfold tput
  split <;> simp
def ikey (xs : List Int) : List Key := xs.map Sum.inl
theorem ikey_vals {xs : List Int} : (ikey xs).map kV = xs.map V.int := by
  unfold ikey
  rw [List.map_map]
  rfl
theorem s_tput {α : Type} [Py α] {D : Ends} {i : Nat} {k : Tup Int} {x : α} (hd : σ[i]? = some (some (.ref d))) (m : TMut W d ks) (hv : EvR pur K tv σ W x) (hk : EvR pur K ty σ W k) (hl : ks.length ≤ 1000000)
    (q : ∀ W', Md [d] W W' → On W W' → TMut W' d (tput ks (ikey k.items)) → D.nx σ W'.H) : sDPut (tVar i) ty tv D σ W.H := hv W (.start trivial) _ fun v W1 g1 rv => ⟨.ref d, hd, hk W1 g1 _ fun u W2 g2 ⟨b, vs, e, s, r⟩ => by
  have g := (g1.trans g2).pure
  obtain ⟨kvs, e1, r1⟩ := (m.gr g).ex
  have bd := (m.gr g).b
  have len : kvs.length = ks.length := by rw [← r1, List.length_map]
  refine ⟨d, _, rfl, .inr ⟨kvs, ikey k.items, b, e1, e, ?_, by rw [len, PySem.sizeLine_eq]; omega, rfl⟩, q (W2.put d _ bd) ((Grow.s g).trans (md_put bd)) (g.on.trans (md_put bd).on) ⟨bd, _, upd_same, by rw [tput_keys, r1]⟩⟩
  rw [ikey_vals, ← reps_int r]
  exact W2.sub.et s⟩
abbrev rListDT : List V → Hp → VK → Prop := fun xs H Q => ∃ d kvs, xs = [V.ref d] ∧ Rd H d (.dT kvs) ∧ ∀ p bs, H p = none → IsKeys H kvs bs → Q (.ref p) (upd H p (.lst (bs.map V.ref)))
/-- list(d) -/
theorem ev_listDT {i : Nat} {xs : List (Tup Int)} (hd : σ[i]? = some (some (.ref d))) (m : TMut W d ks) (hx : ks = xs.map fun t => ikey t.items) : EvR pur K (tCB rListDT (tCons (tVar i) tNil)) σ W xs := fun W1 g1 Q q => by
  obtain ⟨kvs, e1, r1⟩ := (m.gr g1.pure).ex
  refine ⟨_, hd, d, kvs, rfl, .inl e1, fun p bs hp hk => ?_⟩
  have gt := W1.grow_tup bs
  have hp' : (W1.tup bs).H p = none := hp
  refine q _ ((W1.tup bs).add p _) (.of (gt.trans (Wd.grow_add _ hp'))) ⟨p, _, rfl, upd_same, ?_⟩
  have rB : Reps K (W1.tup bs).B (bs.map V.ref) xs := by
    subst hx
    clear q e1
    have main : ∀ (kvs : List (List Key × V)) (bs' : List Addr) (xs : List (Tup Int)), (∀ b ∈ bs', b ∈ bs) → IsKeys W1.H kvs bs' → kvs.map (·.1) = xs.map (fun t => ikey t.items) → Reps K (W1.tup bs).B (bs'.map V.ref) xs := by
      intro kvs
      induction kvs with
      | nil =>
        intro bs' xs _ hk hm
        cases hk
        cases xs with
        | nil => exact .nil
        | cons x xs => cases hm
      | cons kv kvs ih =>
        intro bs' xs hs hk hm
        cases hk with
        | cons h1 h2 =>
          cases xs with
          | nil => cases hm
          | cons x xs =>
            rw [List.map_cons, List.map_cons] at hm
            injection hm with hm1 hm2
            refine .cons ⟨_, _, rfl, Wd.tup_at h1 (hs _ List.mem_cons_self), ?_⟩ (ih _ _ (fun b hb => hs b (List.mem_cons_of_mem _ hb)) h2 hm2)
            rw [hm1, ikey_vals]
            exact int_reps _
    exact main kvs bs xs (fun _ h => h) hk r1
  exact Reps.mono (exExt (Wd.grow_add _ hp').b) rB
end
/-! ### [e for x in ..] where e is drawn -/
section
variable {α β : Type} [Py α] [Py β] {K : Fg} {σ : SS} {W W' : Wd} {v : V} {te : TE} {wi : TI} {ε : Ef}
/-- what is walked, not known whole -/
def EvIQ {α : Type} [Py α] (ε : Ef) (K : Fg) (wi : TI) (σ : SS) (W : Wd) (P : List α → Prop) : Prop :=
  ∀ W1, Stp ε W W1 → ∀ R : It → Hp → Prop, (∀ J S W2 xs, P xs → Stp ε W1 W2 → S W2 → (∀ W W', S W → Stp ε W W' → S W') → Src K J S xs → R J W2.H) → wi σ W1.H R
theorem EvI.q {xs : List α} (h : EvI ε K wi σ W xs) : EvIQ ε K wi σ W (fun ys => ys = xs) := fun W1 g1 R k => h W1 g1 R fun J S W2 g2 s sg src => k J S W2 xs rfl g2 s sg src
theorem ei_rngQ {P : Int → Prop} (h : EvP ε te σ W (fun v _ => ∃ n, v = .int n ∧ P n)) (hb : ∀ n, P n → n ≤ 1000000000 ∧ -1000000000 ≤ n) : EvIQ (α := Int) ε K (iRng1 (tCons te tNil)) σ W (fun xs => ∃ n, P n ∧ xs = rng 0 n.toNat) := fun W1 g1 R k => h W1 g1 _ fun v W2 g2 ⟨n, e, p⟩ =>
  ⟨n, by rw [e], by have := hb n p; omega, by have := hb n p; omega, k _ (fun _ => True) W2 _ ⟨n, p, rfl⟩ g2 trivial (fun _ _ _ _ => trivial) src_range⟩
theorem en_lcQ {j : Nat} {P : List α → Prop} {R : β → Prop} (hi : EvIQ ε K wi σ W P) (hl : ∀ xs, P xs → xs.length ≤ 100000) (he : ∀ (x : α) v W', Stp ε W W' → rep K W'.B v x → EvP ε te ((wipe σ [j]).set j (some v)) W' (fun u W2 => ∃ y : β, R y ∧ rep K W2.B u y)) :
    ∀ W1, Stp ε W W1 → ∀ Q : VK, (∀ p vs (xs : List α) (ys : List β) W2, P xs → Stp ε W1 W2 → W1.H p = none → W2.B p = none → W2.H p = some (.lst vs) → Reps K W2.B vs ys → ys.length = xs.length → (∀ y ∈ ys, R y) → Q (.ref p) W2.H) → tLc wi (gName j) tYes te [j] σ W1.H Q := fun W1 g1 Q k =>
  hi W1 g1 _ fun J S W2 xs hP g2 s2 sg src D hD => by
    have hl := hl xs hP
    have DS : D ∉ ε.S := Ef.off g2.i hD
    refine ⟨fun i m H => m = xs.length - i ∧ i ≤ xs.length ∧ ∃ Wi acc ys, Wi.H = H ∧ Stp ε W2 Wi ∧ Wi.B D = none ∧ Wi.H D = some (.lst acc) ∧ Reps K Wi.B acc ys ∧ ys.length = i ∧ ∀ y ∈ ys, R y, ⟨xs.length, rfl, Nat.zero_le _, W2.put D (.lst []) (W2.free hD), [], ([] : List β), rfl, ⟨md_mut (.refl _ _) (W2.free hD) hD, i_put DS g2.i _⟩, W2.free hD, upd_same, .nil, rfl, by simp⟩, ?_⟩
    rintro i m H ⟨rfl, hle, Wi, acc, ys, rfl, gi, bD, hDi, rs, hyl, hR⟩
    have si : S Wi := sg _ _ s2 gi
    have hacc : acc.length ≤ i := by rw [Reps.len rs, hyl]; exact Nat.le_refl _
    by_cases hlt : i < xs.length
    · refine .inr ⟨src.go i Wi si hlt, fun H => i + 1 ≤ xs.length ∧ ∃ Wi acc ys, Wi.H = H ∧ Stp ε W2 Wi ∧ Wi.B D = none ∧ Wi.H D = some (.lst acc) ∧ Reps K Wi.B acc (ys : List β) ∧ ys.length = i + 1 ∧ ∀ y ∈ ys, R y, fun H' h' => ⟨_, by omega, rfl, h'⟩, fun v H'' hy => ?_⟩
      obtain ⟨x, W3, rfl, g3', hx, r⟩ := src.yld i Wi v H'' si hlt hy
      have g3 : Stp ε Wi W3 := gi.rf.and g3'
      have m3 := g3.md.mut DS hDi bD
      refine ⟨wipe1, ?_⟩
      refine et_yes (ε := ε) W3 g3.rf _ fun W4 g4 => ?_
      rw [if_pos rfl]
      have m4 := g4.md.mut DS m3.1 m3.2
      refine he x v W4 ((((g1.trans g2).trans gi).trans g3).trans g4) (rep_s g4 r) W4 g4.rf _ fun u W5 g5 ⟨y, hy1, r5⟩ => ?_
      have m5 := g5.md.mut DS m4.1 m4.2
      refine ⟨acc, m5.1, Evl.sz_lt (by omega), hlt, W5.put D _ m5.2, acc ++ [u], ys ++ [y], rfl, ⟨md_mut (((gi.trans g3).trans g4).trans g5).md m5.2 hD, i_put DS g5.i _⟩, m5.2, upd_same, Reps.snoc (Reps.mono (exExt ((g3.trans g4).trans g5).md.b) rs) r5, by rw [List.length_append, hyl]; rfl, fun z hz => ?_⟩
      rcases List.mem_append.mp hz with h | h
      · exact hR z h
      · rw [List.mem_singleton.mp h]; exact hy1
    · have e : i = xs.length := by omega
      subst e
      exact .inl ⟨src.stop _ Wi si (Nat.le_refl _), k D acc xs ys Wi hP (g2.trans gi) (by
        cases e : W1.H D with
        | none => rfl
        | some o => exact absurd hD (g2.md.d D (by rw [e]; exact fun z => by cases z))) bD hDi rs hyl hR⟩
theorem ep_lcQ {j : Nat} {P : List α → Prop} {R : β → Prop} (hi : EvIQ ε K wi σ W P) (hl : ∀ xs, P xs → xs.length ≤ 100000) (he : ∀ (x : α) v W', Stp ε W W' → rep K W'.B v x → EvP ε te ((wipe σ [j]).set j (some v)) W' (fun u W2 => ∃ y : β, R y ∧ rep K W2.B u y)) :
    EvP ε (tLc wi (gName j) tYes te [j]) σ W (fun v W' => ∃ (xs : List α) (ys : List β), P xs ∧ ys.length = xs.length ∧ (∀ y ∈ ys, R y) ∧ rep K W'.B v ys) := fun W1 g1 Q k =>
  en_lcQ hi hl he W1 g1 Q fun p vs xs ys W2 hP g2 f n e r hly hR => k _ (W2.fix p _ e) (g2.fix f g1.i e n) ⟨xs, ys, hP, hly, hR, p, vs, rfl, upd_same, Reps.mono (exExt (ex_fix e n)) r⟩
/-- m + a drawn number -/
theorem ep_add {m : Int} {P : Int → Prop} (h : EvP ε te σ W (fun v _ => ∃ n, v = .int n ∧ P n)) : EvP ε (tOp oAdd (tC (.int m)) te) σ W (fun v _ => ∃ n, v = .int (m + n) ∧ P n) := fun W1 g1 Q k => h W1 g1 _ fun v W2 g2 ⟨n, e, p⟩ =>
  ⟨m, n, rfl, e, k _ W2 g2 ⟨n, rfl, p⟩⟩
/-- a drawn number == m -/
theorem ep_eq (K0 : Fg) {m : Int} {P : Int → Prop} (h : EvP ε te σ W (fun v _ => ∃ n, v = .int n ∧ P n)) : EvP ε (tOp rEq te (tC (.int m))) σ W (fun v _ => ∃ b : Bool, v = .bl b) := fun W1 g1 Q k => h W1 g1 _ fun v W2 g2 ⟨n, e, p⟩ => by
  subst e
  exact ro_eqI (K := K0) _ _ W2 rfl rfl Q fun w W3 g3 r => k w W3 (g2.and g3) ⟨_, r⟩
/-- a test that is drawn -/
def EvTQ (ε : Ef) (tt : TT) (σ : SS) (W : Wd) : Prop := ∀ W1, Stp ε W W1 → ∀ Q : Bool → Hp → Prop, (∀ b W2, Stp ε W1 W2 → Q b W2.H) → tt σ W1.H Q
theorem etq (h : EvP ε te σ W (fun v _ => ∃ b : Bool, v = .bl b)) : EvTQ ε (tTest te) σ W := fun W1 g1 Q k => h W1 g1 _ fun v W2 g2 ⟨b, e⟩ => ⟨b, e, k b W2 g2⟩
theorem q_whenQ {D : Ends} {t : TT} {tu tz : TS} (h : EvTQ ε t σ W) (s : ε.I W) (h1 : ∀ W', Stp ε W W' → tu { D with nx := tz D } σ W'.H) (h2 : ∀ W', Stp ε W W' → tz D σ W'.H) : tSeq (tIfS t tu tNext) tz D σ W.H := h W (.start s) _ fun b W' g => by
  cases b with
  | true => exact h1 W' g
  | false => exact h2 W' g
/-- both ways meet again in R -/
theorem q_whenJ {D : Ends} {t : TT} {tu tz : TS} (R : Wd → Prop) (h : EvTQ ε t σ W) (s : ε.I W) (k : ∀ W', R W' → tz D σ W'.H) (h1 : ∀ W', Stp ε W W' → (∀ W'', R W'' → tz D σ W''.H) → tu { D with nx := tz D } σ W'.H) (h2 : ∀ W', Stp ε W W' → R W') : tSeq (tIfS t tu tNext) tz D σ W.H :=
  q_whenQ h s (fun W' g => h1 W' g k) (fun W' g => k W' (h2 W' g))
end
end B
/-! B: == of own instances, methods called by keywords alone -/
namespace B
open PySem L2 PySem.Spec PyProof.Rows
section
variable {X : Cx} {CX : CXT} {k : Nat} {f C : Addr} {fd : FuncData} {ps ks : List Str} {sp : Sp} {E : XK} {o : Expr} {ta : TE} {tk : TA} {kws : List Keyword} {m : Str} {apos pos : Pos}
/-- x == y, two instances of the class at C, whose own __eq__ keeps the promise sp -/
def rInsEq (C : Addr) (sp : Sp) (E : XK) : R2 := fun x y H Q => ∃ a b dx dy fs gs, x = .ref a ∧ y = .ref b ∧ H a = some (.ins C dx fs) ∧ H b = some (.ins C dy gs) ∧ sp [x, y] H Q E
theorem op_insEq (F : FnOk X.prog X.w X.K X.mg X.base CX k f fd ps sp) (hr : Room k X.A) (hm : Meth X.K C "__eq__" f) (hb : Binds X.K fd ps []) (hx : Passes CX X E) : OpR X (compareOp .Eq) (rInsEq C sp E) := by
  intro pins s σ H x y v u Q I rx ry h
  obtain ⟨a, b, dx, dy, fs, gs, rfl, rfl, ha, hb', q⟩ := h
  cases (show v = Value.ref a from rx)
  cases (show u = Value.ref b from ry)
  obtain ⟨mA, J, _⟩ := ins_get I.hok ha
  obtain ⟨mB, J', _⟩ := ins_get I.hok hb'
  obtain ⟨od, J, _⟩ := J.look
  obtain ⟨od', J', _⟩ := J'.look
  obtain ⟨m, hF⟩ := I.fr
  show wpAny (model X.prog X.w) X.A (richCompare .Eq (.ref a) (.ref b)) (EP X pins σ Q) X.xe s
  refine PySem.W.cmp_K (op := .Eq) (tb := .ref C) hr.units0 hF I.ok.mod.kin J J'.type (by simp [PySem.W.notFirst]) hm.at_ hm.fn ?_
  refine wpAny_mono (run_fn (us := [.ref a, .ref b]) (vs := [.ref a, .ref b]) (dvs := []) F hr hb .nil hx I (.cons rfl (.cons rfl .nil)) q) (fun w s' z => ?_) fun _ _ x => x
  obtain ⟨z', H', I', rz, qz⟩ := z
  exact SlX.cmpback rz ⟨z', H', I', rz, qz⟩
/-- how a method binds keywords alone, self ahead -/
def KwM (K : Fg) (fd : FuncData) (ps ks : List Str) (l : List Nat) : Prop := ∀ (s : Shared) (o : Value) (ws : List Value), K.In s.heap → ws.length = ks.length → BindsTo s fd ⟨[o], ks.zip ws⟩ (ps.zip (o :: perm l ws))
theorem kwm_mk {K : Fg} {x qual : Str} {st : Stmt} {f : Addr} {fd : FuncData} {ps ks : List Str} {l : List Nat} (F : Fun K x qual st f fd)
    (h : ∀ (kV doc pm : Value) (an : Option Addr) (cdv ct : Value) (o : Value) (us : List Value), us.length = ks.length → bindArgs (PySem.W.fnOf x qual (defArgs st) (defBody st) (defScope st) .none kV doc pm an cdv ct) ⟨[o], ks.zip us⟩ = pure (ps.zip (o :: perm l us))) : KwM K fd ps ks l := by
  obtain ⟨oc, od, kV, doc, pm, an, cdv, ct, osl, rfl, lk, hcd⟩ := F.ex
  exact fun s o ws _ hl => .of_eq (h kV doc pm an cdv ct o ws hl)
def tMethKw (C : Addr) (m : Str) (sp : Sp) (l : List Nat) (n : Nat) (E : XK) (ta : TE) (tk : TA) : TE := fun σ H Q => ta σ H fun x H1 => ∃ a dx fs, x = .ref a ∧ H1 a = some (.ins C dx fs) ∧ fs.lookup m = none ∧ tk σ H1 fun zs H2 => zs.length = n ∧ sp (x :: perm l zs) H2 Q E
theorem pe_methKw {l : List Nat} {n : Nat} {pl : Sem Bool} (he : PE X o ta) (c : Cls X.K C) (hm : Meth X.K C m f) (F : FnOk X.prog X.w X.K X.mg X.base CX k f fd ps sp) (hr : Room k X.A) (hb : KwM X.K fd ps ks l) (hx : Passes CX X E)
    (hkw : PK X kws tk) (hall : (backToKw pos (keywordEach kws X.env)).all (·.1.isSome) = true := by rfl) (hks : (backToKw pos (keywordEach kws X.env)).filterMap (·.1) = ks := by rfl)
    (hn : n = ks.length := by rfl) (hpl : ((backTo pos (starEach [] X.env)).any (·.1) || (backToKw pos (keywordEach kws X.env)).any (·.1.isNone)) = false := by rfl)
    (ht : eval (.Call (.Attribute o m apos) [] kws pos) X.env = (do
      let ov ← eval o X.env
      standAt apos.atName
      let (f, first) ← holding [ov] (getMethod ov m pl)
      callWith pos f first (backTo pos (starEach [] X.env)) (backToKw pos (keywordEach kws X.env))) := by rfl) :
    PE X (.Call (.Attribute o m apos) [] kws pos) (tMethKw C m sp l n E ta tk) := by
  subst hn
  refine ⟨fun pins s σ H Q I h => ?_⟩
  refine PySem.W.methodCall_KW (pl := pl) (thn (he.run pins s σ H _ I h) fun u s1 ⟨x, H1, I1, rx, a, dx, fs, ex, ea, lk, q⟩ => ?_) ht
  subst ex
  obtain rfl : u = Value.ref a := rx
  refine getmeth_ok I1 ea c hm lk ?_
  refine PySem.W.callWith_KW0 (first := [.ref a]) (h₀ := X.base) I.ok.mod.kin hm.kp hall (thn (hkw.run pos pins s1 σ H1 _ I1 q) fun ws s2 ⟨zs, H2, I2, rz, hl, q2⟩ => ⟨I2.kIn, ?_⟩) hpl
  rw [hks]
  have r2 : Vals (V.ref a :: perm l zs) (Value.ref a :: perm l ws) := .cons rfl (perm_rel l rz)
  refine wpAny_call (codeAny_mono (F.run X.A X.stack s2 H2 ⟨[.ref a], ks.zip ws⟩ (Value.ref a :: perm l ws) (V.ref a :: perm l zs) Q E hr I2.env0 (hb s2 (.ref a) ws I2.kIn (by rw [← rz.length]; exact hl)) r2 q2) fun r s' hq => ?_)
  cases r with
  | error e => exact hx pins σ H2 s2 e s' I2 hq
  | ok fl =>
    cases fl with
    | ret u => exact I2.after hq
    | next => exact False.elim hq
    | brk => exact False.elim hq
    | cont => exact False.elim hq
end
/-- what is asked of a class whose instances have a dict; isinstance of itself -/
structure ClsI (K : Fg) (C : Addr) : Prop where
  cl : Cls K C
  ha : PySem.W.findIn K (.ref C) "__class__" = some (some (.builtin "object.__class__"))
  hn : PySem.W.specialIn K (.builtin "object.__class__") "__get__" = some (some (.builtin "getset_descriptor.__get__"))
  ht : PySem.W.takesIn K (.builtin "object.__class__") = some true
  hm : PySem.W.mroIn K C (.type "object") = some true
  ki : PySem.W.kitOne K (.ref C) (.ref C) = some true
theorem ClsI.ty {K : Fg} {C a dx : Addr} {H : Hp} {fs : List (Str × V)} (c : ClsI K C) (e : H a = some (.ins C dx fs)) : TyX K H (.ref a) (.ref C) := .base (.ins e c.cl c.ha c.hn c.ht c.hm)
/-- isinstance of an own instance -/
theorem rc_isi_own {K : Fg} {C a dx : Addr} {H : Hp} {Q : VK} {fs : List (Str × V)} (c : ClsI K C) (e : H a = some (.ins C dx fs)) (q : Q (.bl true) H) : rIsi K [.ref a, .ref C] H Q := ⟨.ref a, .ref C, .ref C, .ref C, true, rfl, .own C, c.ty e, c.ki, q⟩
/-! ### enumerate(tuple) -/
theorem enumT_new (t : Addr) (items : Array Value) :
    Meets (Builtin.«enumerate.__new__» ⟨[.type "enumerate", .ref t], []⟩) (fun _ R s => s.heap.IsTuple t items ∧
      R (.ok (.ret (.ref (s.heap.objs.size + 1)))) { s with heap := (s.heap.push { cls := .type "tuple_iterator", data := .fields #[.ref t, .int 0 0] }).push { cls := .type "enumerate", data := .fields #[.none, .bool false, .ref s.heap.objs.size, rawInt 0, .none, .none] } }) :=
  .of_wp fun prog w A R s h => by
    obtain ⟨hp, g, d, tk, os⟩ := s
    obtain ⟨h1, h⟩ := h
    have hsub := sub_enumerate
    have hz : (hp.push { cls := .type "tuple_iterator", data := .fields #[.ref t, .int 0 0] }).objs.size = hp.objs.size + 1 := Heap.size_push ..
    have q1 : ∀ {A' : Around} {E : Value → Shared → Prop} {Q : Value → Shared → Prop}, Q (.ref hp.objs.size) ⟨hp.push { cls := .type "tuple_iterator", data := .fields #[.ref t, .int 0 0] }, g, d, tk, os⟩ → wpAny (model prog w) A' (pyIter (.ref t)) Q E ⟨hp, g, d, tk, os⟩ :=
      fun q => wpAny_pyIter_tuple (s := ⟨hp, g, d, tk, os⟩) h1 q
    have h' : ∃ v, Fin.done (Flow.ret (Value.ref (hp.push { cls := .type "tuple_iterator", data := .fields #[.ref t, .int 0 0] }).objs.size)) = Fin.done (Flow.ret v) ∧ R (.ok (.ret v)) ⟨(hp.push { cls := .type "tuple_iterator", data := .fields #[.ref t, .int 0 0] }).push { cls := .type "enumerate", data := .fields #[.none, .bool false, .ref hp.objs.size, rawInt 0, .none, .none] }, g, d, tk, os⟩ := ⟨_, rfl, by rw [hz]; exact h⟩
    wp_walk using q1
    refine wpAny_stack_any fun st => wpAny_pure ?_
    split
    · rename_i c _ _ _ _ _
      cases (c == Value.type "enumerate")
      · wp_walk using q1
        exact h'
      · wp_walk using q1
        exact h'
    · wp_walk using q1
      exact h'
def IteT (K : Fg) (a : Addr) (n : Nat) : It :=
  ⟨fun i H => i < n ∧ ∃ xs : List V, SqT K H a xs ∧ xs.length = n, fun i H v H' => ∃ T x, v = .ref T ∧ H T = none ∧ H' = upd H T (.tup [.int (i : Nat), x]) ∧ ∀ xs, SqT K H a xs → xs[i]? = some x,
    fun i H => n ≤ i ∧ ∃ xs : List V, SqT K H a xs ∧ xs.length = n⟩
def EtTn (a e it : Addr) (n i : Nat) (h : Heap) : Prop := (∃ old, IsEnum h e it ((i : Nat) : Int) old) ∧ h.IsTupleIter it a i ∧ e ≠ it ∧ e ≠ a ∧ i ≤ n
theorem turn_enumT {P : Program} {w : World} {K : Fg} {elts : List Expr} {kk : Nat} {tpos : Pos} (a e it : Addr) (n : Nat) :
    Turn P w K (.Tuple elts kk tpos) (IteT K a n) [e, it] e (EtTn a e it n) where
  mem := by simp
  obj := fun i h st b hb => by
    obtain ⟨⟨old, he⟩, ⟨o, ho, hc, hd⟩, _⟩ := st
    simp only [List.mem_cons, List.not_mem_nil, or_false] at hb
    rcases hb with z | z <;> rw [z]
    · exact ⟨_, he, fun v q => nomatch q⟩
    · exact ⟨o, ho, fun v q => by rw [hd] at q; cases q⟩
  keep := fun i h h' st k => let ⟨⟨old, he⟩, hi, hne⟩ := st; ⟨⟨old, k e (by simp) _ he⟩, hi.at fun o q => k it (by simp) o q, hne⟩
  item := by
    intro X hP hw hK hc i pins s σ H E I hf st hg
    subst hP hw hK
    obtain ⟨⟨old, he⟩, hit, hne, hea, hle⟩ := st
    obtain ⟨hlt, xs, hq, hn⟩ := hg
    obtain ⟨its, rv, p, hz⟩ := I.tuple hq
    have hl : its.length = n := by rw [← rv.length]; exact hn
    have hel : e < s.heap.objs.size := Heap.lt_size he
    have hil : it < s.heap.objs.size := by obtain ⟨_, q, _⟩ := hit; exact Heap.lt_size q
    have hef : e ∉ [it, a] := by simp [hne, hea]
    refine wpAny_pyNext_enum_itemD (Draws.tuple (show X.A.in1.handled = none from I.ok.hd hc) it a (ti_ne hit p) its.toArray) he ⟨hit, p⟩ (by simpa [hl] using hlt) hne hef fun u h' tk hu ho hit' hT hsz hk => ?_
    have hx : xs[i]? = some (xs[i]'(by omega)) := List.getElem?_eq_getElem (by omega)
    obtain ⟨u', e3, ru⟩ := rv.get hx
    have e2 : its[i]? = some u := by simpa using hu
    rw [e2] at e3
    cases e3
    refine ⟨_, rfl, wpAny_letOwnedTupleGo_enum (s := { s with heap := h', toks := tk + 1 }) ho fun h'' he' sb => ?_⟩
    have hT2 : h''.get? s.heap.objs.size = some { cls := .type "tuple", data := .seq #[.int i tk, u] } := (sb.2 _ (Nat.ne_of_gt hel)).trans hT
    have new : ObjOk X.prog X.w (upd H s.heap.objs.size (.tup [.int (i : Nat), xs[i]])) h'' s.heap.objs.size (.tup [.int (i : Nat), xs[i]]) :=
      ⟨by show 2 ≤ sizeLine; decide, [.int i tk, u], .cons ⟨_, rfl⟩ (.cons ru .nil), ⟨_, hT2, rfl, _, rfl⟩⟩
    have I1 : Inv X pins σ (upd H s.heap.objs.size (.tup [.int (i : Nat), xs[i]])) { s with heap := h'', toks := tk + 1 } :=
      I.turnedNew (ch := [e, it]) (fun b ob hb q => (sb.2 b (fun z => hb (by simp [z]))).trans (hk b ob (fun z => hb (by simp [z])) (fun z => hb (by simp [z])) q)) hf (Nat.le_refl _) new
    refine ⟨.ref s.heap.objs.size, _, I1, rfl, ⟨_, xs[i], rfl, I.hok.fresh (Nat.le_refl _), rfl, fun ys hy => by rw [I.tuple_inj hy hq]; exact hx⟩, ⟨⟨u, ?_⟩, hit'.1.at fun o q => (sb.2 it (Ne.symm hne)).trans q, hne, hea, by omega⟩, fun b hb => ?_⟩
    · have e1 : ((i + 1 : Nat) : Int) = (i : Int) + 1 := by omega
      rw [e1]; exact he'
    · have hb' : b < s.heap.objs.size := by
        simp only [List.mem_cons, List.not_mem_nil, or_false] at hb
        rcases hb with z | z <;> rw [z]
        · exact hel
        · exact hil
      rw [upd_ne (Nat.ne_of_lt hb')]
      exact (hf b hb).1
  done := by
    intro X hP hw hK hc i pins s σ H E I hf st hg
    subst hP hw hK
    obtain ⟨⟨old, he⟩, hit, hne, hea, hle⟩ := st
    obtain ⟨hge, xs, hq, hn⟩ := hg
    obtain ⟨its, rv, p, hz⟩ := I.tuple hq
    have hl : its.length = n := by rw [← rv.length]; exact hn
    obtain ⟨f0, f1, f2, f3, f4, f5⟩ := hf it (by simp)
    have hi : i = its.toArray.size := by simp; omega
    subst hi
    exact wpAny_pyNext_enum_endD (Draws.tuple (show X.A.in1.handled = none from I.ok.hd hc) it a (ti_ne hit p) its.toArray) he ⟨hit, p⟩ fun h' eb => ⟨rfl, I.turned (t' := s.toks) (fun b o hb q => eb b o hb q) f0 f1 f3 f4 f5⟩
  self := fun A i s Q E st h => let ⟨⟨_, he⟩, _⟩ := st; wpAny_pyIter_enum he h
def iEnumT (K : Fg) (ta : TA) : TI := fun σ H R => ta σ H fun vs H1 => ∃ a xs, vs = [.ref a] ∧ SqT K H1 a xs ∧ R (IteT K a xs.length) H1
theorem pi_enumT {X : Cx} {e : Expr} {ta : TA} {p pos tpos : Pos} {elts : List Expr} {kk : Nat} (hg : Gl X "enumerate") (hm : X.mg "enumerate" = none) (ha : PA X [e] ta) (hs : starEach [e] X.env = [(false, eval e X.env)] := by rfl) :
    PI X (.Tuple elts kk tpos) (.Call (.Name "enumerate" p) [e] [] pos) (iEnumT X.K ta) := by
  refine ⟨fun pins s σ H R I h => ?_⟩
  refine Call_ (ld_blt I hg hm boot_enumerate (PyProof.Rows.callWith_type1 (thn (ha.run pos pins s σ H _ I h) fun us s1 ⟨vs, H1, I1, r1, q1⟩ => ?_) hs rfl))
  obtain ⟨a, xs, ex, hq, q⟩ := q1
  subst ex
  cases r1 with
  | cons r rr =>
    cases rr
    cases r
    obtain ⟨its, rv, p', hz⟩ := I1.tuple hq
    have la : a < s1.heap.objs.size := by obtain ⟨o, ho, _⟩ := id p'; exact Heap.lt_size ho
    refine callType_new F.called_enumerate (by decide) (F.typeCall_enumerate_1 _) (F.newCall_enumerate_1 _) (fun obj => F.args_object_init_2 obj _) F.entry_enumerate_new (enumT_new a its.toArray) ⟨p', ?_⟩
    have hz : (s1.heap.push { cls := .type "tuple_iterator", data := .fields #[.ref a, .int 0 0] }).objs.size = s1.heap.objs.size + 1 := Heap.size_push ..
    have he : IsEnum ((s1.heap.push { cls := .type "tuple_iterator", data := .fields #[.ref a, .int 0 0] }).push { cls := .type "enumerate", data := .fields #[.none, .bool false, .ref s1.heap.objs.size, rawInt 0, .none, .none] }) (s1.heap.objs.size + 1) s1.heap.objs.size 0 .none := by
      have := Heap.get?_push_size (s1.heap.push { cls := .type "tuple_iterator", data := .fields #[.ref a, .int 0 0] }) (o := { cls := .type "enumerate", data := .fields #[.none, .bool false, .ref s1.heap.objs.size, rawInt 0, .none, .none] }) rfl
      rw [hz] at this; exact this
    refine ⟨⟨_, he, rfl⟩, wpAny_pyIter_enum he ?_⟩
    have hk : ∀ b o, s1.heap.get? b = some o → ((s1.heap.push { cls := .type "tuple_iterator", data := .fields #[.ref a, .int 0 0] }).push { cls := .type "enumerate", data := .fields #[.none, .bool false, .ref s1.heap.objs.size, rawInt 0, .none, .none] }).get? b = some o := fun b o x => Heap.get?_push_of_some _ (Heap.get?_push_of_some _ x)
    have I2 : Inv X pins σ H1 { s1 with heap := (s1.heap.push { cls := .type "tuple_iterator", data := .fields #[.ref a, .int 0 0] }).push { cls := .type "enumerate", data := .fields #[.none, .bool false, .ref s1.heap.objs.size, rawInt 0, .none, .none] } } := I1.kept (t' := s1.toks) hk
    refine ⟨s1.heap.objs.size + 1, [s1.heap.objs.size + 1, s1.heap.objs.size], _, _, H1, rfl, I2, turn_enumT a (s1.heap.objs.size + 1) s1.heap.objs.size xs.length, ⟨⟨.none, he⟩, ⟨_, Heap.get?_push_of_some _ (Heap.get?_push_size _ rfl), rfl, rfl⟩, Nat.succ_ne_self _, Nat.ne_of_gt (Nat.lt_succ_of_lt la), Nat.zero_le _⟩, fun b hb => ?_, q⟩
    have hle : s1.heap.objs.size ≤ b := by
      simp only [List.mem_cons, List.not_mem_nil, or_false] at hb
      rcases hb with z | z <;> rw [z]
      · exact Nat.le_succ _
      · exact Nat.le_refl _
    exact I1.fpOk hle (I1.hok.fresh hle)
open PySem.W (Tup)
theorem ei_enumT {α : Type} [Py α] {K : Fg} {σ : SS} {W : Wd} {te : TE} {ε : Ef} {xs : Tup α} (h : EvR ε K te σ W xs) : EvJ ε K (iEnumT K (tCons te tNil)) σ W ((rng 0 xs.items.length).zip xs.items) := fun W1 g1 R k => h W1 g1 _ fun v W2 g2 ⟨a, vs, e, s, r⟩ => by
  have hl := Reps.len r
  refine ⟨a, vs, by rw [e], SqT.of (W2.sub.et s), k (IteT K a vs.length) W2 g2 ⟨fun i W' o hi => ?_, fun i W' v H'' o hi ⟨T, x, e1, hT, e2, e3⟩ => ?_, fun i W' o hi => ?_⟩⟩
  · rw [List.length_zip, rng_len] at hi
    exact ⟨by omega, vs, SqT.of (W'.sub.et (o.b _ _ s)), rfl⟩
  · rw [List.length_zip, rng_len] at hi
    obtain ⟨y, h1, h2⟩ := Reps.get r (e3 vs (SqT.of (W'.sub.et (o.b _ _ s))))
    refine ⟨((i : Int), y), W'.add T _, e2.symm, W'.grow_add hT, ?_, T, .int (i : Nat), x, e1, upd_same, rfl, rep_g (W'.grow_add hT) (rex o.b h2)⟩
    rw [List.getElem?_zip_eq_some]
    exact ⟨by rw [rng_get (by omega)]; simp, h1⟩
  · rw [List.length_zip, rng_len] at hi
    exact ⟨by omega, vs, SqT.of (W'.sub.et (o.b _ _ s)), rfl⟩
/-! ### chains of comparisons -/
def tTest3 (r1 r2 r3 : R2) (ta tb tc td : TE) : TT := fun σ H Q => ta σ H fun x H1 => tb σ H1 fun y H2 => r1 x y H2 fun p H3 => ∃ k, p = .bl k ∧
  (if k = true then tc σ H3 fun z H4 => r2 y z H4 fun p H5 => ∃ k, p = .bl k ∧ (if k = true then td σ H5 fun u H6 => r3 z u H6 fun p H7 => ∃ k, p = .bl k ∧ Q k H7 else Q false H5) else Q false H3)
theorem pt_chain3 {X : Cx} {a b c d : Expr} {pos : Pos} {o1 o2 o3 : CmpOp} {r1 r2 r3 : R2} {ta tb tc td : TE} (h1 : OpR X (compareOp o1) r1) (h2 : OpR X (compareOp o2) r2) (h3 : OpR X (compareOp o3) r3) (ha : PE X a ta) (hb : PE X b tb) (hc : PE X c tc) (hd : PE X d td)
    (hm : lastMarks [o1, o2, o3] [b, c, d] = false := by with_unfolding_all rfl) : PT X (.Compare a [o1, o2, o3] [b, c, d] pos) (tTest3 r1 r2 r3 ta tb tc td) := by
  refine ⟨fun pins s σ H Q I h => ?_⟩
  refine isTrue_chain (thn (ha.run pins s σ H _ I h) fun v s1 ⟨x, H1, I1, g1, q1⟩ => test_link (thn (hb.run pins s1 σ H1 _ I1 q1) fun u s2 ⟨y, H2, I2, g2, q2⟩ =>
    thn (h1 pins s2 σ H2 x y v u _ I2 g1 g2 q2) fun d s3 ⟨z, H3, I3, g3, k, e, q3⟩ => ?_)) hm
  subst e
  cases g3
  refine wpAny_truthy_bool ?_
  cases k with
  | false => exact ite_ff ⟨H3, I3, q3⟩
  | true =>
    refine ite_tt (test_link (thn (hc.run pins s3 σ H3 _ I3 q3) fun w' s4 ⟨z', H4, I4, g4, q4⟩ => thn (h2 pins s4 σ H4 y z' u w' _ I4 g2 g4 q4) fun d' s5 ⟨z2, H5, I5, g5, k2, e2, q5⟩ => ?_))
    subst e2
    cases g5
    refine wpAny_truthy_bool ?_
    cases k2 with
    | false => exact ite_ff ⟨H5, I5, q5⟩
    | true =>
      refine ite_tt (test_last (thn (hd.run pins s5 σ H5 _ I5 q5) fun w6 s6 ⟨z6, H6, I6, g6, q6⟩ => thn (h3 pins s6 σ H6 z' z6 w' w6 _ I6 g4 g6 q6) fun d7 s7 ⟨z7, H7, I7, g7, k3, e3, q7⟩ => ?_))
      subst e3
      cases g7
      exact wpAny_truthy_bool ⟨H7, I7, q7⟩
section
variable {α β γ δ : Type} [Py α] [Py β] [Py γ] [Py δ] {K : Fg} {σ : SS} {W : Wd} {ta tb tc td : TE} {r1 r2 r3 : R2} {ε : Ef} {x : α} {y : β} {z : γ} {u : δ} {b1 b2 b3 : Bool}
/-- a op b op c as a value -/
theorem ev_chain (ha : EvR ε K ta σ W x) (hb : EvR ε K tb σ W y) (hc : EvR ε K tc σ W z) (h1 : RO K r1 x y b1) (h2 : RO K r2 y z b2) : EvR ε K (tChain r1 r2 ta tb tc) σ W (b1 && b2) := fun W1 g1 Q k =>
  ha W1 g1 _ fun vx W2 g2 rx => hb W2 (g1.trans g2) _ fun vy W3 g3 ry => h1 vx vy W3 (rep_s g3 rx) ry _ fun w W4 g4 rw => ⟨b1, rw, by
    have g14 := (g1.trans g2).trans (g3.and g4)
    cases b1 with
    | false => rw [if_neg Bool.false_ne_true]; exact k _ W4 ((g2.trans g3).and g4) rfl
    | true =>
      rw [if_pos rfl]
      exact hc W4 g14 _ fun vz W5 g5 rz => h2 vy vz W5 (rep_s g5 (rep_g g4 ry)) rz _ fun w' W6 g6 rw' => k w' W6 (((g2.trans (g3.and g4)).trans g5).and g6) rw'⟩
theorem et_chain3 (ha : EvR ε K ta σ W x) (hb : EvR ε K tb σ W y) (hc : EvR ε K tc σ W z) (hd : EvR ε K td σ W u) (h1 : RO K r1 x y b1) (h2 : RO K r2 y z b2) (h3 : RO K r3 z u b3) : EvT ε (tTest3 r1 r2 r3 ta tb tc td) σ W (b1 && (b2 && b3)) := fun W1 g1 Q k =>
  ha W1 g1 _ fun vx W2 g2 rx => hb W2 (g1.trans g2) _ fun vy W3 g3 ry => h1 vx vy W3 (rep_s g3 rx) ry _ fun w W4 g4 rw => ⟨b1, rw, by
    have g14 := (g1.trans g2).trans (g3.and g4)
    cases b1 with
    | false => rw [if_neg Bool.false_ne_true]; exact k W4 ((g2.trans g3).and g4)
    | true =>
      rw [if_pos rfl]
      exact hc W4 g14 _ fun vz W5 g5 rz => h2 vy vz W5 (rep_s g5 (rep_g g4 ry)) rz _ fun w' W6 g6 rw' => ⟨b2, rw', by
        have g16 := g14.trans (g5.and g6)
        cases b2 with
        | false => rw [if_neg Bool.false_ne_true]; exact k W6 (((g2.trans (g3.and g4)).trans g5).and g6)
        | true =>
          rw [if_pos rfl]
          exact hd W6 g16 _ fun vu W7 g7 ru => h3 vz vu W7 (rep_s g7 (rep_g g6 rz)) ru _ fun w8 W8 g8 rw8 => ⟨b3, rw8, k W8 ((((g2.trans (g3.and g4)).trans (g5.and g6)).trans g7).and g8)⟩⟩⟩
end
abbrev oIsB : R2 := fun x y H Q => ∃ a b, x = .bl a ∧ y = .bl b ∧ Q (.bl (decide (a = b))) H
abbrev oNotIsB : R2 := fun x y H Q => ∃ a b, x = .bl a ∧ y = .bl b ∧ Q (.bl (!decide (a = b))) H
theorem ro_isB {K : Fg} {a b : Bool} : RO K oIsB a b (decide (a = b)) := ro_val fun v u _ rv ru Q k => ⟨a, b, rv, ru, k _ rfl⟩
theorem ro_notIsB {K : Fg} {a b : Bool} : RO K oNotIsB a b (!decide (a = b)) := ro_val fun v u _ rv ru Q k => ⟨a, b, rv, ru, k _ rfl⟩
end B
/-! B: fields of own instances; max of a list; slices by places -/
namespace B
open PySem L2
open PySem.W (Tup T3 T4 Datum DatumOrd)
open Evl (Ex)
section
variable {α : Type} [Py α] {K : Fg} {C x : Addr} {W W' : Wd} {σ : SS} {i : Nat} {f : Str} {v : V} {y : α} {fs : List (Str × V)} {dx : Addr} {tv : TE} {ε : Ef}
/-- o.f -/
theorem ev_fld (c : Cls K C) (n : NoAttr K C f) (hd : σ[i]? = some (some (.ref x))) (hb : W.B x = none) (hh : W.H x = some (.ins C dx fs)) (hS : x ∉ ε.S) (hl : fs.lookup f = some v) (r : rep K W.B v y) : EvR ε K (tFld K (tVar i) f) σ W y := fun W1 g1 Q k => by
  have m := g1.md.mut hS hh hb
  exact ⟨_, hd, x, C, dx, fs, v, rfl, m.1, c, n, hl, k v W1 g1.rf (rep_s g1 r)⟩
/-- o.f = v -/
theorem s_fld {D : Ends} (c : Cls K C) (n : NoAttr K C f) (hd : σ[i]? = some (some (.ref x))) (hb : W.B x = none) (hh : W.H x = some (.ins C dx fs)) (hl : fs.length < 1000) (hv : EvR pur K tv σ W y)
    (q : ∀ v W', Md [x] W W' → On W W' → W'.B x = none → W'.H x = some (.ins C dx (putF f v fs)) → rep K W'.B v y → D.nx σ W'.H) : sFld K (tVar i) tv f D σ W.H := hv W (.start trivial) _ fun v W1 g1 rv => by
  have m := g1.pure.mut (by simp) hh hb
  exact ⟨_, hd, x, C, dx, fs, rfl, m.1, c, n, hl, q v (W1.put x _ m.2) ((Grow.s g1.pure).trans (md_put m.2)) (g1.on.trans (md_put m.2).on) m.2 upd_same rv⟩
theorem q_fld {D : Ends} {tz : TS} (c : Cls K C) (n : NoAttr K C f) (hd : σ[i]? = some (some (.ref x))) (hb : W.B x = none) (hh : W.H x = some (.ins C dx fs)) (hl : fs.length < 1000) (hv : EvR pur K tv σ W y)
    (q : ∀ v W', Md [x] W W' → On W W' → W'.B x = none → W'.H x = some (.ins C dx (putF f v fs)) → rep K W'.B v y → tz D σ W'.H) : tSeq (sFld K (tVar i) tv f) tz D σ W.H := s_fld (D := { D with nx := tz D }) c n hd hb hh hl hv q
/-- isinstance(o, C) of an instance of C -/
theorem ev_isOwn (c : ClsI K C) (hd : σ[i]? = some (some (.ref x))) (hb : W.B x = none) (hh : W.H x = some (.ins C dx fs)) (hS : x ∉ ε.S) : EvR ε K (tCB (rIsi K) (tCons (tVar i) (tCons (tC (.ref C)) tNil))) σ W true := fun W1 g1 Q k => by
  have m := g1.md.mut hS hh hb
  refine ⟨_, hd, ?_⟩
  show rIsi K [.ref x, .ref C] W1.H Q
  exact rc_isi_own c m.1 (k _ W1 g1.rf rfl)
/-- max(xs) -/
theorem rc_max {xs : List Int} {m : Int} (h1 : m ∈ xs) (h2 : ∀ y ∈ xs, y ≤ m) : RC1 K (rMax K) xs m := fun v W1 ⟨a, vs, e, s, r⟩ Q k => ⟨a, xs, by rw [e], by rw [← reps_int r]; exact SqL.of (W1.sub.el s), List.length_pos_of_mem h1, fun m' h3 h4 => by
  have : m' = m := Int.le_antisymm (h2 m' h3) (h4 m h1)
  rw [this]
  exact k _ W1 (.refl _ _) rfl⟩
end
theorem cut_to {α : Type} {xs : List α} {n : Nat} (h : n ≤ xs.length) : cutL xs none (some (n : Int)) = xs.take n := by
  unfold cutL
  rw [HT.sIx_none, HT.sIx_nat, List.drop_zero, Nat.sub_zero, Nat.min_eq_left h]
theorem cut_from {α : Type} {xs : List α} {n : Nat} (h : n ≤ xs.length) : cutL xs (some (n : Int)) none = xs.drop n := by
  unfold cutL
  rw [HT.sIx_none, HT.sIx_nat, Nat.min_eq_left h, List.take_of_length_le]
  rw [List.length_drop]
  exact Nat.le_refl _
theorem cut_toN {α : Type} {xs : List α} {n : Nat} : cutL xs none (some (n : Int)) = xs.take n := by
  unfold cutL
  rw [HT.sIx_none, HT.sIx_nat, List.drop_zero, Nat.sub_zero]
  by_cases h : n ≤ xs.length
  · rw [Nat.min_eq_left h]
  · rw [Nat.min_eq_right (by omega), List.take_of_length_le (Nat.le_refl _), List.take_of_length_le (by omega)]
end B
/-! B: more rules: lists that change, dict comprehensions, calls of three and four, targets of three and four names, list(range) -/
namespace B
open PySem L2
open PySem.W (Tup T3 T4 Datum DatumOrd)
open Evl (Ex)
section
variable {α β γ δ : Type} [Py α] [Py β] [Py γ] [Py δ] {K : Fg} {W W' : Wd} {σ : SS} {ε : Ef} {te ta tb tc td : TE} {i : Nat} {d : Addr} {S : List Addr}
theorem ty_tup {xs : Tup α} (W1 : Wd) (v : V) (h : rep K W1.B v xs) : TyX K W1.H v (.type "tuple") := by
  obtain ⟨a, vs, rfl, h1, _⟩ := h
  exact .base (.tup (W1.sub.et h1))
theorem ty_lst {xs : List α} (W1 : Wd) (v : V) (h : rep K W1.B v xs) : TyX K W1.H v (.type "list") := by
  obtain ⟨a, vs, rfl, h1, _⟩ := h
  exact .base (.lst (W1.sub.el h1))
/-- isinstance(x, (c1, c2)), built-in classes -/
theorem ev_isi2 {x : α} {a c1 c2 : String} {b1 b2 : Bool} (h : EvR ε K te σ W x) (ht : ∀ (W1 : Wd) v, rep K W1.B v x → TyX K W1.H v (.type a)) (h1 : kitB a c1 = some b1) (h2 : kitB a c2 = some b2) : EvR ε K (tCB (rIsiT K) (tCons te (tCons (tTup (tCons (tC (.ty c1)) (tCons (tC (.ty c2)) tNil))) tNil))) σ W (b1 || b2) := fun W1 g1 Q k =>
  h W1 g1 _ fun v W2 g2 r => ⟨Evl.sz_of (by show 2 ≤ 100000; decide), fun p hp => ⟨v, p, [.ty c1, .ty c2], .type a, [.type c1, .type c2], b1 || b2, rfl, upd_same, .cons (.ty c1) (.cons (.ty c2) .nil), ht (W2.add p (.tup [.ty c1, .ty c2])) v (rep_g (W2.grow_add hp) r), by
    refine kitAny_cons (kit_ty h1) (fun e => ?_) (fun e => by rw [e]; rfl)
    rw [e, Bool.false_or]
    exact kitAny_cons (kit_ty h2) (fun e2 => by rw [e2]; exact kitAny_nil) (fun e2 => e2), k _ (W2.add p _) (g2.and (W2.grow_add hp)) rfl⟩⟩
/-! ### calls of three, four -/
theorem ev_callP3 {P1 P2 P3 R : V → Wd → Prop} {sp : Sp} {E : XK} (ha : EvP ε ta σ W P1) (hb : EvP ε tb σ W P2) (hc : EvP ε tc σ W P3) (m1 : ∀ v W W', Stp ε W W' → P1 v W → P1 v W') (m2 : ∀ v W W', Stp ε W W' → P2 v W → P2 v W')
    (hs : ∀ v1 v2 v3 W1, Stp ε W W1 → P1 v1 W1 → P2 v2 W1 → P3 v3 W1 → ∀ Q : VK, (∀ u W2, Stp ε W1 W2 → R u W2 → Q u W2.H) → sp [v1, v2, v3] W1.H Q E) : EvP ε (tCall sp [] E (tCons ta (tCons tb (tCons tc tNil)))) σ W R := fun W1 g1 Q k =>
  ha W1 g1 _ fun v1 W2 g2 p1 => hb W2 (g1.trans g2) _ fun v2 W3 g3 p2 => hc W3 ((g1.trans g2).trans g3) _ fun v3 W4 g4 p3 => hs v1 v2 v3 W4 (((g1.trans g2).trans g3).trans g4) (m1 _ _ _ (g3.trans g4) p1) (m2 _ _ _ g4 p2) p3 Q fun u W5 g5 r => k u W5 (((g2.trans g3).trans g4).trans g5) r
theorem ev_callP4 {P1 P2 P3 P4 R : V → Wd → Prop} {sp : Sp} {E : XK} (ha : EvP ε ta σ W P1) (hb : EvP ε tb σ W P2) (hc : EvP ε tc σ W P3) (hd : EvP ε td σ W P4) (m1 : ∀ v W W', Stp ε W W' → P1 v W → P1 v W') (m2 : ∀ v W W', Stp ε W W' → P2 v W → P2 v W') (m3 : ∀ v W W', Stp ε W W' → P3 v W → P3 v W')
    (hs : ∀ v1 v2 v3 v4 W1, Stp ε W W1 → P1 v1 W1 → P2 v2 W1 → P3 v3 W1 → P4 v4 W1 → ∀ Q : VK, (∀ u W2, Stp ε W1 W2 → R u W2 → Q u W2.H) → sp [v1, v2, v3, v4] W1.H Q E) : EvP ε (tCall sp [] E (tCons ta (tCons tb (tCons tc (tCons td tNil))))) σ W R := fun W1 g1 Q k =>
  ha W1 g1 _ fun v1 W2 g2 p1 => hb W2 (g1.trans g2) _ fun v2 W3 g3 p2 => hc W3 ((g1.trans g2).trans g3) _ fun v3 W4 g4 p3 => hd W4 (((g1.trans g2).trans g3).trans g4) _ fun v4 W5 g5 p4 =>
    hs v1 v2 v3 v4 W5 ((((g1.trans g2).trans g3).trans g4).trans g5) (m1 _ _ _ ((g3.trans g4).trans g5) p1) (m2 _ _ _ (g4.trans g5) p2) (m3 _ _ _ g5 p3) p4 Q fun u W6 g6 r => k u W6 ((((g2.trans g3).trans g4).trans g5).trans g6) r
/-- a variable that holds what P tells -/
theorem ep_var {P : V → Wd → Prop} {v : V} (h : σ[i]? = some (some v)) (p : P v W) (m : ∀ W', Stp ε W W' → P v W') : EvP ε (tVar i) σ W P := fun W1 g1 Q k => ⟨v, h, k v W1 g1.rf (m W1 g1)⟩
/-- a method called -/
theorem ev_meth0 {R : V → Wd → Prop} {C : Addr} {m : Str} {sp : Sp} {E : XK} {x : Addr} {dx : Addr} {fs : List (Str × V)} (hd : σ[i]? = some (some (.ref x))) (hb : W.B x = none) (hh : W.H x = some (.ins C dx fs)) (hS : x ∉ ε.S) (hl : fs.lookup m = none)
    (hs : ∀ W1, Stp ε W W1 → ∀ Q : VK, (∀ u W2, Stp ε W1 W2 → R u W2 → Q u W2.H) → sp [.ref x] W1.H Q E) : EvP ε (tMeth C m sp [] E (tVar i) tNil) σ W R := fun W1 g1 Q k => by
  have mm := g1.md.mut hS hh hb
  exact ⟨_, hd, x, dx, fs, rfl, mm.1, hl, hs W1 g1 Q k⟩
/-! ### targets -/
theorem gt_t3 {j1 j2 j3 : Nat} {p : T3 α β γ} {v : V} {Q : SS → Hp → Prop} (r : rep K W.B v p) (k : ∀ v1 v2 v3, rep K W.B v1 p.a → rep K W.B v2 p.b → rep K W.B v3 p.c → Q (((σ.set j1 (some v1)).set j2 (some v2)).set j3 (some v3)) W.H) : gTup K 3 (gCons (gName j1) (gCons (gName j2) (gCons (gName j3) gNil))) v σ W.H Q := by
  obtain ⟨a, x, y, z, e, h, r1, r2, r3⟩ := r
  exact ⟨a, [x, y, z], e, SqT.of (W.sub.et h), rfl, x, [y, z], rfl, y, [z], rfl, z, [], rfl, rfl, k x y z r1 r2 r3⟩
theorem gt_t4 {j1 j2 j3 j4 : Nat} {p : T4 α β γ δ} {v : V} {Q : SS → Hp → Prop} (r : rep K W.B v p) (k : ∀ v1 v2 v3 v4, rep K W.B v1 p.a → rep K W.B v2 p.b → rep K W.B v3 p.c → rep K W.B v4 p.d → Q ((((σ.set j1 (some v1)).set j2 (some v2)).set j3 (some v3)).set j4 (some v4)) W.H) : gTup K 4 (gCons (gName j1) (gCons (gName j2) (gCons (gName j3) (gCons (gName j4) gNil)))) v σ W.H Q := by
  obtain ⟨a, x, y, z, w, e, h, r1, r2, r3, r4⟩ := r
  exact ⟨a, [x, y, z, w], e, SqT.of (W.sub.et h), rfl, x, [y, z, w], rfl, y, [z, w], rfl, z, [w], rfl, w, [], rfl, rfl, k x y z w r1 r2 r3 r4⟩
theorem gt_p2 {j1 j2 : Nat} {p : α × β} {v : V} {Q : SS → Hp → Prop} (r : rep K W.B v p) (k : ∀ v1 v2, rep K W.B v1 p.1 → rep K W.B v2 p.2 → Q ((σ.set j1 (some v1)).set j2 (some v2)) W.H) : gPair K j1 j2 v σ W.H Q := by
  obtain ⟨a, x, y, e, h, r1, r2⟩ := r
  exact ⟨a, [x, y], e, SqT.of (W.sub.et h), rfl, x, [y], rfl, y, [], rfl, rfl, k x y r1 r2⟩
theorem gt_u2 {j1 j2 : Nat} {x y : α} {v : V} {Q : SS → Hp → Prop} (r : rep K W.B v [x, y]) (k : ∀ v1 v2, rep K W.B v1 x → rep K W.B v2 y → Q ((σ.set j1 (some v1)).set j2 (some v2)) W.H) : gUnl K 2 (gCons (gName j1) (gCons (gName j2) gNil)) v σ W.H Q := by
  obtain ⟨a, vs, e, h, r⟩ := r
  cases r with
  | cons r1 r =>
    cases r with
    | cons r2 r =>
      cases r
      exact ⟨a, _, e, SqL.of (W.sub.el h), rfl, _, _, rfl, _, _, rfl, rfl, k _ _ r1 r2⟩
theorem ev_t4 {x : α} {y : β} {z : γ} {w : δ} (ha : EvR ε K ta σ W x) (hb : EvR ε K tb σ W y) (hc : EvR ε K tc σ W z) (hd : EvR ε K td σ W w) : EvR ε K (tTup (tCons ta (tCons tb (tCons tc (tCons td tNil))))) σ W (T4.mk x y z w) := fun W1 g1 Q k =>
  ha W1 g1 _ fun a W2 g2 ra => hb W2 (g1.trans g2) _ fun b W3 g3 rb => hc W3 ((g1.trans g2).trans g3) _ fun c W4 g4 rc => hd W4 (((g1.trans g2).trans g3).trans g4) _ fun e W5 g5 re => ⟨Evl.sz_of (by show 4 ≤ 100000; decide), fun p hp =>
    k _ (W5.add p (.tup [a, b, c, e])) ((((g2.trans g3).trans g4).trans g5).and (W5.grow_add hp)) ⟨p, a, b, c, e, rfl, upd_same, rep_g (W5.grow_add hp) (rep_s g5 (rep_s g4 (rep_s g3 ra))), rep_g (W5.grow_add hp) (rep_s g5 (rep_s g4 rb)), rep_g (W5.grow_add hp) (rep_s g5 rc), rep_g (W5.grow_add hp) re⟩⟩
/-- an item of a tuple of four -/
theorem ro_ixQ {p : T4 α β γ δ} : RO K (rIxT K) p (0 : Int) p.a ∧ RO K (rIxT K) p (1 : Int) p.b ∧ RO K (rIxT K) p (2 : Int) p.c ∧ RO K (rIxT K) p (3 : Int) p.d := by
  refine ⟨ro_val fun v u W1 rv ru Q k => ?_, ro_val fun v u W1 rv ru Q k => ?_, ro_val fun v u W1 rv ru Q k => ?_, ro_val fun v u W1 rv ru Q k => ?_⟩ <;>
  · obtain ⟨a, x, y, z, w, e, h, r1, r2, r3, r4⟩ := rv
    exact ⟨a, [x, y, z, w], _, _, e, ru, SqT.of (W1.sub.et h), rfl, k _ (by first | exact r1 | exact r2 | exact r3 | exact r4)⟩
/-- list(range(a, b)) -/
theorem ev_lstRg {a b : Int} (ha : EvR ε K ta σ W a) (hb : EvR ε K tb σ W b) (h : RgOk a b) : EvR ε K (tLstRg (tRg2 ta tb)) σ W (rng a (b - a).toNat) := fun W1 g1 Q k =>
  ha W1 g1 _ fun v W2 g2 ra => hb W2 (g1.trans g2) _ fun u W3 g3 rb => ⟨a, b, ra, rb, h, fun p hp => k _ (W3.add p _) ((g2.trans g3).and (W3.grow_add hp)) ⟨p, _, rfl, upd_same, by
    have : rgV a b = (rng a (b - a).toNat).map V.int := by
      unfold rgV rng
      rw [List.map_map]
      rfl
    rw [this]
    exact int_reps _⟩⟩
/-! ### lists that change -/
structure LMut (K : Fg) (W : Wd) (d : Addr) (xs : List α) : Prop where
  b : W.B d = none
  ex : ∃ vs, W.H d = some (.lst vs) ∧ Reps K W.B vs xs
theorem LMut.g {xs : List α} (m : LMut K W d xs) (g : Md S W W') (h : d ∉ S) : LMut K W' d xs := by
  obtain ⟨vs, e, r⟩ := m.ex
  have := g.mut h e m.b
  exact ⟨this.2, vs, this.1, Reps.mono (exExt g.b) r⟩
theorem LMut.gr {xs : List α} (m : LMut K W d xs) (g : Grow W W') : LMut K W' d xs := m.g g (by simp)
theorem LMut.nt {xs : List α} (m : LMut K W d xs) : Nt W.H d := by
  obtain ⟨vs, e, _⟩ := m.ex
  exact .l e
/-- xs.append(y) -/
theorem s_append {D : Ends} {xs : List α} {y : α} (hd : σ[i]? = some (some (.ref d))) (m : LMut K W d xs) (h : EvR pur K te σ W y) (hl : xs.length < 100000) (q : ∀ W', Md [d] W W' → On W W' → LMut K W' d (xs ++ [y]) → D.nx σ W'.H) : tDrop (tBM K "list" rAppend (tVar i) (tCons te tNil)) D σ W.H := by
  obtain ⟨vs, e, r⟩ := m.ex
  refine ⟨_, hd, .inl ⟨rfl, vs, SqL.of e⟩, h W (.start trivial) _ fun v W1 g1 rv => ?_⟩
  obtain ⟨vs1, e1, r1⟩ := (m.gr g1.pure).ex
  have b1 := (m.gr g1.pure).b
  exact ⟨d, vs1, v, rfl, rfl, e1, by rw [Reps.len r1]; exact Evl.sz_lt hl, q (W1.put d _ b1) ((Grow.s g1.pure).trans (md_put b1)) (g1.on.trans (md_put b1).on) ⟨b1, _, upd_same, Reps.snoc r1 rv⟩⟩
theorem q_append {D : Ends} {tz : TS} {xs : List α} {y : α} (hd : σ[i]? = some (some (.ref d))) (m : LMut K W d xs) (h : EvR pur K te σ W y) (hl : xs.length < 100000) (q : ∀ W', Md [d] W W' → On W W' → LMut K W' d (xs ++ [y]) → tz D σ W'.H) : tSeq (tDrop (tBM K "list" rAppend (tVar i) (tCons te tNil))) tz D σ W.H := s_append (D := { D with nx := tz D }) hd m h hl q
/-- it shall stay -/
theorem LMut.fix {xs : List α} (m : LMut K W d xs) : ∃ o, ∃ h : W.H d = some o, rep K (W.fix d o h).B (.ref d) xs ∧ Ex W.B (W.fix d o h).B ∧ ∀ W0 S, Md S W0 W → W0.H d = none → Md S W0 (W.fix d o h) := by
  obtain ⟨vs, e, r⟩ := m.ex
  exact ⟨_, e, ⟨d, vs, rfl, upd_same, Reps.mono (exExt (ex_fix e m.b)) r⟩, ex_fix e m.b, fun W0 S g f => md_fix g e m.b f⟩
/-- a list that changes, read -/
theorem LMut.rv {xs : List α} (m : LMut K W d xs) : ∃ vs, W.H d = some (.lst vs) ∧ Reps K W.B vs xs := m.ex
end
/-! ### {k: v for x in ..} -/
section
variable {α β κ : Type} [Py α] [Py β] [DecidableEq κ] [PyKey κ] {K : Fg} {W : Wd} {σ : SS} {ε : Ef} {tk tv : TE} {wi : TI}
theorem ed_dcN {j : Nat} {xs : List α} {f : α → κ} {g : α → β} (hi : EvI ε K wi σ W xs) (hk : ∀ x v W', x ∈ xs → Stp ε W W' → rep K W'.B v x → EvP ε tk ((wipe σ [j]).set j (some v)) W' (fun u _ => u = kV (PyKey.key (f x)))) (he : ∀ x v W', x ∈ xs → Stp ε W W' → rep K W'.B v x → EvR ε K tv ((wipe σ [j]).set j (some v)) W' (g x)) (hl : xs.length < 100000) :
    ∀ W1, Stp ε W W1 → ∀ Q : VK, (∀ p W2, Stp ε W1 W2 → W1.H p = none → DMut K W2 p (xs.foldl (fun kv x => kput kv (f x) (g x)) []) → Q (.ref p) W2.H) → tDc wi (gName j) tYes tk tv [j] σ W1.H Q := fun W1 g1 Q k =>
  hi W1 g1 _ fun J S W2 g2 s2 sg src D hD => by
    have DS : D ∉ ε.S := Ef.off g2.i hD
    refine ⟨fun i m H => m = xs.length - i ∧ i ≤ xs.length ∧ ∃ Wi, Wi.H = H ∧ Stp ε W2 Wi ∧ DMut K Wi D ((xs.take i).foldl (fun kv x => kput kv (f x) (g x)) []) ∧ ((xs.take i).foldl (fun kv x => kput kv (f x) (g x)) []).length ≤ i, ⟨xs.length, rfl, Nat.zero_le _, W2.put D (.dK []) (W2.free hD), rfl, ⟨md_mut (.refl _ _) (W2.free hD) hD, i_put DS g2.i _⟩, DMut.new W2 hD, Nat.le_refl _⟩, ?_⟩
    rintro i m H ⟨rfl, hle, Wi, rfl, gi, dm, dl⟩
    have si : S Wi := sg _ _ s2 gi
    by_cases hlt : i < xs.length
    · refine .inr ⟨src.go i Wi si hlt, fun H => i + 1 ≤ xs.length ∧ ∃ Wi, Wi.H = H ∧ Stp ε W2 Wi ∧ DMut K Wi D ((xs.take (i + 1)).foldl (fun kv x => kput kv (f x) (g x)) []) ∧ ((xs.take (i + 1)).foldl (fun kv x => kput kv (f x) (g x)) []).length ≤ i + 1, fun H' h' => ⟨_, by omega, rfl, h'⟩, fun v H'' hy => ?_⟩
      obtain ⟨x, W3, rfl, g3', hx, r⟩ := src.yld i Wi v H'' si hlt hy
      have g3 : Stp ε Wi W3 := gi.rf.and g3'
      have hm := List.mem_of_getElem? hx
      have G3 := ((g1.trans g2).trans gi).trans g3
      refine ⟨wipe1, et_yes (ε := ε) W3 g3.rf _ fun W4 g4 => ?_⟩
      rw [if_pos rfl]
      have G4 := G3.trans g4
      refine hk x v W4 hm G4 (rep_s g4 r) W4 g4.rf _ fun u W5 g5 eu => he x v W5 hm (G4.trans g5) (rep_s g5 (rep_s g4 r)) W5 g5.rf _ fun w W6 g6 rw' => ?_
      have G6 : Stp ε Wi W6 := ((g3.trans g4).trans g5).trans g6
      obtain ⟨ks, e6, r6⟩ := (dm.s G6 DS).ex
      have b6 := (dm.s G6 DS).b
      have tk' : xs.take (i + 1) = xs.take i ++ [x] := by rw [List.take_add_one, hx]; rfl
      have ef : (xs.take (i + 1)).foldl (fun kv x => kput kv (f x) (g x)) [] = kput ((xs.take i).foldl (fun kv x => kput kv (f x) (g x)) []) (f x) (g x) := by rw [tk', List.foldl_append]; rfl
      refine ⟨ks, PyKey.key (f x), eu, e6, by rw [KReps.len r6]; exact Evl.sz_lt (by omega), hlt, W6.put D _ b6, rfl, ⟨md_mut (gi.trans G6).md b6 hD, i_put DS G6.i _⟩, ⟨b6, _, upd_same, ?_⟩, ?_⟩
      · rw [ef]
        exact KReps.put r6 (f x) rw'
      · rw [ef]
        have := kput_len ((xs.take i).foldl (fun kv x => kput kv (f x) (g x)) []) (f x) (g x)
        omega
    · have e : i = xs.length := by omega
      subst e
      rw [List.take_length] at dm
      exact .inl ⟨src.stop _ Wi si (Nat.le_refl _), k D Wi (g2.trans gi) (by
        cases e : W1.H D with
        | none => rfl
        | some o => exact absurd hD (g2.md.d D (by rw [e]; exact fun z => by cases z))) dm⟩
end
/-- xs = xs + ys, xs a list that changes: a new one that may change -/
theorem s_catM {α : Type} [Py α] {K : Fg} {σ : SS} {W : Wd} {D : Ends} {te : TE} {i : Nat} {d : Addr} {xs ys : List α} (hd : σ[i]? = some (some (.ref d))) (m : LMut K W d xs) (h : EvR pur K te σ W ys) (hl : xs.length + ys.length ≤ 100000)
    (q : ∀ d' W', Grow W W' → W.H d' = none → LMut K W' d' (xs ++ ys) → D.nx (σ.set i (some (.ref d'))) W'.H) : tAsg (tOp rCat (tVar i) te) (gName i) D σ W.H := ⟨_, hd, h W (.start trivial) _ fun v W1 g1 ⟨b, us, e, s, r⟩ => by
  obtain ⟨vs, e1, r1⟩ := (m.gr g1.pure).ex
  refine ⟨d, b, vs, us, rfl, e, e1, W1.sub.el s, Evl.sz_of (by rw [Reps.len r1, Reps.len r]; exact hl), fun p hp => q p (W1.put p _ (W1.free hp)) (g1.pure.trans (W1.grow_put hp)) ?_ ⟨W1.free hp, _, upd_same, Reps.app r1 r⟩⟩
  cases z : W.H p with
  | none => rfl
  | some o => exact absurd hp (g1.md.d p (by rw [z]; exact fun y => by cases y))⟩
theorem q_asgG {α : Type} [Py α] {ε : Ef} {K : Fg} {σ : SS} {W : Wd} {D : Ends} {te : TE} {g : TG} {tz : TS} {x : α} (h : EvR ε K te σ W x) (s : ε.I W) (k : ∀ v W', Stp ε W W' → rep K W'.B v x → g v σ W'.H fun σ2 H2 => tz D σ2 H2) : tSeq (tAsg te g) tz D σ W.H := h W (.start s) _ k
theorem EvJ.toIs {α : Type} [Py α] {ε : Ef} {K : Fg} {wi : TI} {σ : SS} {W : Wd} {xs ys : List α} (h : EvJ ε K wi σ W xs) (e : xs = ys) : EvJ ε K wi σ W ys := e ▸ h
end B
/-! B: a row that is a list or a tuple, walked; sorted(set(tuple)); a tuple's steps -/
namespace BY
open PySem PySem.Spec PyProof.Rows L2
section
variable {prog : Program} {w : World} {A : Around} {E : Value → Shared → Prop} {s : Shared} {a : Addr}
theorem sorted_setO {S : Int → Bool} {n : Nat} {Q : Value → Shared → Prop} (R : SetR w s.heap a S n) (hh : A.handled = none) (hz0 : n ≤ 4000)
    (hQ : ∀ s' p (out : List Value) (c : Nat) (ns : List Int), (∀ b o, s.heap.get? b = some o → s'.heap.get? b = some o) → s'.gens = s.gens → s'.os = s.os → s.heap.objs.size ≤ p →
      s'.heap.get? p = some (seqObj "list" out.toArray c) → IntsAre out ns → ns.Pairwise (· < ·) → (∀ k, k ∈ ns ↔ S k = true) → ns.length = n → Q (.ref p) s') :
    wpAny (model prog w) A (call (.builtin "sorted") [.ref a]) Q E s := by
  obtain ⟨o, es, ep, t, ho, hex, hd, g, nd, hm, hb, hf, hn, hr, hl⟩ := R
  refine Calls.call_function_entry kind_sorted plain_sorted entry_sorted (args_sorted1 _) ?_
  unfold Builtin.«sorted»
  refine wpAny_bind (m := checkCount "sorted" 1 1 _) (wpAny_pure ?_)
  refine wpAny_bind (collect_set (A := A.in1) hh ⟨o, ho, hex.1, hd⟩ hf hb hr hl fun s1 vs k1 hz g1 o1 pm => ?_)
  have hvl : vs.length = n := by rw [pm.length_eq, List.length_map, Array.length_toList]; exact hn
  have hI : IntsAre vs (vs.map Builtin.Re.reRawOf) := ints_of vs fun v hv => by
    obtain ⟨e, he, q⟩ := List.mem_map.mp (pm.mem_iff.mp hv)
    obtain ⟨k, tk, h1, _⟩ := g e he
    exact ⟨k, tk, by rw [← q]; exact h1⟩
  have pk : (vs.map Builtin.Re.reRawOf).Perm (es.toList.map keyOf) := by
    have q := pm.map Builtin.Re.reRawOf
    rw [List.map_map] at q
    exact q
  have hzl : vs.length ≤ sizeLine := by rw [hvl, sizeLine_eq]; omega
  refine wpAny_bind (wpAny_newList ?_ hzl)
  have hoL : (s1.heap.push (seqObj "list" vs.toArray 0)).get? s1.heap.objs.size = some (seqObj "list" vs.toArray 0) := Heap.get?_push_size _ rfl
  refine wpAny_bind (wpAny_holding (wpAny_call_entry slot_list_sort ⟨_, hoL, rfl⟩ entry_list_sort (SrtO.list_sort_ord SrtO.swo_int hoL hzl (fun h2 => SrtO.ints_sortable hI h2) fun out hs hb' => ⟨_, rfl, ?_⟩) (args_list_sort _)))
  obtain ⟨c, hc⟩ := sortedHeap_at (vs := vs) (out := out.toArray) hoL
  obtain ⟨a1, a2, a3⟩ := SrtO.ints_out hI hs hb'
  have pn : (out.map SrtO.iv).Perm (es.toList.map keyOf) := a2.trans pk
  refine wpAny_pure ⟨_, rfl, hQ _ s1.heap.objs.size out c (out.map SrtO.iv) (fun b u e => ?_) g1 o1 hz hc a1 (lt_of_le_nodup _ a3 (pn.nodup_iff.mpr nd)) (fun k => by rw [pn.mem_iff, ← hm k]) ?_⟩
  · have q := k1 b u e
    have hlt := Heap.lt_size q
    show (sortedHeap (s1.heap.push (seqObj "list" vs.toArray 0)) s1.heap.objs.size vs out.toArray).get? b = some u
    rw [sortedHeap_old (Nat.ne_of_lt hlt) (by rw [size_push']; exact Nat.lt_succ_of_lt hlt)]
    exact Heap.get?_push_of_some _ q
  · rw [pn.length_eq, List.length_map, Array.length_toList]; exact hn
end
section
variable {X : Cx} {tg : Expr}
/-- sorted(set(t)), a tuple of ints -/
def tSortSet (K : PySem.W.Frag) (ta : TE) : TE := fun σ H Q => ta σ H fun x H1 => ∃ (l : Addr) (ns : List Int), x = .ref l ∧ SqT K H1 l (ns.map V.int) ∧ ns.length ≤ 4000 ∧
  ∀ (ns' : List Int) (p : Addr), ns'.Pairwise (· < ·) → (∀ k, k ∈ ns' ↔ k ∈ ns) → H1 p = none → Q (.ref p) (upd H1 p (.lst (ns'.map V.int)))
theorem set_sorted {pins : List (Addr × Obj)} {σ : L2.St} {H1 : Hp} {s2 : Shared} {b : Addr} {ns : List Int} {c : Nat} {Q : VK} (I2 : L2.Inv X pins σ H1 s2) (hS : SetR X.w s2.heap b (fun j => decide (j ∈ ns)) c) (hc4 : c ≤ 4000) (hc : X.calm = true)
    (q1 : ∀ (ns' : List Int) (p : Addr), ns'.Pairwise (· < ·) → (∀ k, k ∈ ns' ↔ k ∈ ns) → H1 p = none → Q (.ref p) (upd H1 p (.lst (ns'.map V.int)))) :
    wpAny (model X.prog X.w) X.A (call (.builtin "sorted") [.ref b]) (EP X pins σ Q) X.xe s2 := by
  refine sorted_setO hS (I2.ok.hd hc) hc4 fun s' p out c2 ns' k g o hp hg' hi hs hm' hl' => ?_
  have hlen' : (ns'.map V.int).length ≤ sizeLine := by rw [List.length_map, hl', sizeLine_eq]; omega
  have hn : H1 p = none := I2.hok.fresh hp
  have J : Inv X pins σ (upd H1 p (.lst (ns'.map V.int))) { s2 with heap := s'.heap, gens := s'.gens, drawn := s'.drawn, toks := s'.toks } :=
    I2.call (ch := []) (Un.laid k hp hn) (I2.hok.laid k hp ⟨hlen', out, c2, vals_of_ints hi, hg'⟩) (by rw [g]; exact I2.bare) (fun _ z => nomatch z)
  have e : s' = { s2 with heap := s'.heap, gens := s'.gens, drawn := s'.drawn, toks := s'.toks } := by
    cases s'
    cases s2
    cases o
    rfl
  rw [e]
  exact ⟨.ref p, _, J, rfl, q1 ns' p hs (fun k => by rw [hm' k, decide_eq_true_eq]) hn⟩
theorem pe_sortSet {a : Expr} {ta : TE} {p p2 q pos : Pos} (hg : Gl X "sorted") (hm : X.mg "sorted" = none) (hg2 : Gl X "set") (hm2 : X.mg "set" = none) (ha : PE X a ta) (hc : X.calm = true := by rfl)
    (na : starEach [a] X.env = (false, eval a X.env) :: starEach [] X.env := by rfl) : PE X (.Call (.Name "sorted" p) [.Call (.Name "set" p2) [a] [] q] [] pos) (tSortSet X.K ta) := by
  refine ⟨fun pins s σ H Q I h => ?_⟩
  refine Call_ (ld_blt I hg hm (show bootBuiltins "sorted" = some (.builtin "sorted") by decide +kernel) ?_)
  refine PyProof.Rows.callWith_builtin1 (PyProof.Rows.args_cons ?_ rfl) rfl rfl
  refine Call_ (ld_blt I hg2 hm2 boot_set ?_)
  refine PyProof.Rows.callWith_type1 (PyProof.Rows.args_cons (thn (ha.run pins s σ H _ I h) fun v s1 ⟨x, H1, I1, r1, q1⟩ => PyProof.Rows.args_nil ?_) na) na rfl
  obtain ⟨l, ns, rfl, hq, hl, q1⟩ := q1
  cases r1
  obtain ⟨its, r, pl, hz⟩ := I1.tuple hq
  have hlen : its.length = ns.length := by rw [← r.length, List.length_map]
  refine call_set_tupI ns (I1.ok.hd hc) (items := its.toArray) ?_ (by simpa using r.ints) (by unfold scanBound; omega) fun h' tk c hS hc' hk => ?_
  · exact pl
  refine PyProof.Rows.args_nil ?_
  have I2 : Inv X pins σ H1 { s1 with heap := h', toks := tk } := I1.kept fun b o e => hk b o e
  exact set_sorted I2 hS (by omega) hc q1
/-- a row, a list or a tuple, walked -/
def iSeq (K : PySem.W.Frag) (tl : TE) : TI := fun σ H R => iList K tl σ H R ∨ iTup K tl σ H R
theorem pi_seq {l : Expr} {tl : TE} (hl : PE X l tl) : PI X tg l (iSeq X.K tl) := by
  refine ⟨fun pins s σ H R I h => ?_⟩
  rcases h with h | h
  · exact (pi_list hl).run pins s σ H R I h
  · exact (pi_tup hl).run pins s σ H R I h
/-! ### t[lo:hi:k] -/
theorem vals_pick {xs : List V} {us : List Value} (r : Vals xs us) : ∀ l : List Nat, Vals (l.filterMap fun m => xs[m]?) (l.filterMap fun m => us.toArray[m]?)
  | [] => .nil
  | m :: l => by
    have ih := vals_pick r l
    cases hx : xs[m]? with
    | none =>
      have hu := r.none_of hx
      rw [List.filterMap_cons_none hx, List.filterMap_cons_none (by simpa using hu)]
      exact ih
    | some x =>
      obtain ⟨u, hu, ru⟩ := r.get hx
      rw [List.filterMap_cons_some hx, List.filterMap_cons_some (b := u) (by simpa using hu)]
      exact .cons ru ih
/-- the places of [lo:hi:k] among n -/
def stepIx (lo hi : Option Int) (k : Int) (n : Nat) : List Nat :=
  (List.range (Builtin.Slice.slicePlaces (Builtin.Slice.sliceAdjust lo hi k n).1 (Builtin.Slice.sliceAdjust lo hi k n).2 k)).map fun (m : Nat) => ((Builtin.Slice.sliceAdjust lo hi k n).1 + (m : Int) * k).toNat
def tTupStep (K : PySem.W.Frag) (te : TE) (lo hi : Option Int) (k : Int) : TE := fun σ H Q => te σ H fun x H1 => ∃ a xs, x = .ref a ∧ SqT K H1 a xs ∧ (stepIx lo hi k xs.length).length ≤ sizeLine ∧
  ∀ p, H1 p = none → Q (.ref p) (upd H1 p (.tup ((stepIx lo hi k xs.length).filterMap fun m => xs[m]?)))
/-- a part of a slice that is left out or is a number in the text -/
structure PCn (X : Cx) (e : Option Expr) (o : Option Int) : Prop where
  run : ∀ (pins : List (Addr × Obj)) (s : Shared) (σ : L2.St) (H : Hp) (R : Value → Shared → Prop), Inv X pins σ H s → (∀ u, IsPart u o → ∀ s', Inv X pins σ H s' → R u s') → wpAny (model X.prog X.w) X.A (evalPart e X.env) R X.xe s
theorem pc_none : PCn X none none := ⟨fun pins s σ H R I h => thn (po_none.run pins s σ H (fun o H2 => o = none ∧ H2 = H) I ⟨rfl, rfl⟩) fun vl s2 ⟨l, H2, I2, pl, el, e2⟩ => by
  subst el e2
  exact h _ pl _ I2⟩
theorem pc_pos {i : Nat} {k : Nat} {p : Pos} : PCn X (some (.Constant (.int i) k p)) (some i) := ⟨fun pins s σ H R I h => by
  have hst : PO X (some (.Constant (.int i) k p)) (tPart (tC (.int i))) := po_some pe_int
  exact thn (hst.run pins s σ H (fun o H2 => o = some (i : Int) ∧ H2 = H) I ⟨i, rfl, rfl, rfl⟩) fun vl s2 ⟨l, H2, I2, pl, el, e2⟩ => by
    subst el e2
    exact h _ pl _ I2⟩
theorem pc_neg {i : Nat} {k : Nat} {p p2 : Pos} : PCn X (some (.UnaryOp .USub (.Constant (.int i) k p) p2)) (some (-(i : Int))) := ⟨fun pins s σ H R I h => by
  have hst : PO X (some (.UnaryOp .USub (.Constant (.int i) k p) p2)) (tPart (tUn (rU fun i => .int (-i)) (tC (.int i)))) := po_some (pe_un un_neg pe_int)
  exact thn (hst.run pins s σ H (fun o H2 => o = some (-(i : Int)) ∧ H2 = H) I ⟨i, rfl, _, rfl, rfl, rfl⟩) fun vl s2 ⟨l, H2, I2, pl, el, e2⟩ => by
    subst el e2
    exact h _ pl _ I2⟩
section
variable {prog : Program} {w : World} {A : Around} {E : Value → Shared → Prop} {s : Shared}
theorem sliceApplied_step {sl : Addr} {vl vu vs : Value} {lo hi : Option Int} {k : Int} {n : Nat} {Q : Int × Int × Nat → Shared → Prop} (hs : s.heap.IsSliceOf sl vl vu vs) (pl : IsPart vl lo) (pu : IsPart vu hi) (ps : IsPart vs (some k)) (h0 : k ≠ 0)
    (h : Q ((Builtin.Slice.sliceAdjust lo hi k n).1, k, Builtin.Slice.slicePlaces (Builtin.Slice.sliceAdjust lo hi k n).1 (Builtin.Slice.sliceAdjust lo hi k n).2 k) s) : wpAny (model prog w) A (Builtin.Slice.sliceApplied (.ref sl) (pure (n : Int))) Q E s := by
  obtain ⟨os, hos, hcs, hds⟩ := id hs
  unfold Builtin.Slice.sliceApplied Builtin.Slice.sliceFields
  refine wpAny_bind (wpAny_bind (wpAny_field hos hds (x := vl) rfl (wpAny_bind (wpAny_field hos hds (x := vu) rfl (wpAny_bind (wpAny_field hos hds (x := vs) rfl (wpAny_pure ?_)))))))
  refine wpAny_bind (HT.slicePart_ ps ?_)
  show wpAny _ _ (if (k == 0) = true then _ else _) _ _ s
  rw [if_neg (by simpa using h0)]
  refine wpAny_bind (HT.slicePart_ pl (wpAny_bind (HT.slicePart_ pu (wpAny_bind (wpAny_pure ?_)))))
  exact wpAny_pure h
theorem getItem_tuple_step {t sl : Addr} {items : Array Value} {vl vu vs : Value} {lo hi : Option Int} {k : Int} {Q : Value → Shared → Prop} (ht : IsTup s.heap t items) (hs : s.heap.IsSliceOf sl vl vu vs) (pl : IsPart vl lo) (pu : IsPart vu hi) (ps : IsPart vs (some k)) (h0 : k ≠ 0) (h1 : k ≠ 1)
    (h : Q (.ref s.heap.objs.size) { s with heap := s.heap.push { cls := .type "tuple", data := .seq ((stepIx lo hi k items.size).filterMap fun m => items[m]?).toArray } })
    (hsz : (stepIx lo hi k items.size).length ≤ sizeLine) : wpAny (model prog w) A (getItem (.ref t) (.ref sl)) Q E s := by
  have htake : sizeOk (.seq ((stepIx lo hi k items.size).filterMap fun m => items[m]?).toArray) := by
    show ((stepIx lo hi k items.size).filterMap fun m => items[m]?).toArray.size ≤ sizeLine
    rw [List.size_toArray]
    exact Nat.le_trans (List.length_filterMap_le _ _) hsz
  obtain ⟨os, hos, hcs, hds⟩ := id hs
  have hTs : s.TypeIs (.ref sl) "slice" := ⟨os, hos, hcs⟩
  unfold getItem
  try with_reducible refine wpAny_holding ?_
  first | refine wpAny_bind (wpAny_pure ?_) | skip
  refine wpAny_bind (wpAny_sequenceKey ht.typeIs (by decide) ?_)
  refine wpAny_bind (wpAny_callSpecial?_slot (name := Str.ofString "__getitem__") ht.typeIs PyProof.Rows.slot_tuple_getitem
    (wpAny_call_entry PyProof.Rows.slot_tuple_getitem ht.typeIs entry_tuple_getitem ?_ (args_tuple_getitem _ _)))
  show wpAny _ _ (Builtin.Tuple.tupleItemsOf (.ref t) >>= _) _ _ s
  refine wpAny_bind (tupleItemsOf_ ht ?_)
  refine wpAny_bind (wpAny_typeOf hTs ?_)
  rw [if_pos (by decide)]
  refine wpAny_bind (sliceApplied_step hs pl pu ps h0 ?_)
  have hno : ∀ a b : Bool, ¬ ((a && k == 1 && b) = true) := fun a b q => by
    rw [Bool.and_eq_true, Bool.and_eq_true] at q
    exact h1 (eq_of_beq q.1.2)
  show wpAny _ _ (if ((Builtin.Slice.sliceAdjust lo hi k items.size).1 == 0 && k == 1 && Builtin.Slice.slicePlaces (Builtin.Slice.sliceAdjust lo hi k items.size).1 (Builtin.Slice.sliceAdjust lo hi k items.size).2 k == items.size) = true then _ else _) _ _ s
  rw [if_neg (hno _ _)]
  have e : (List.range (Builtin.Slice.slicePlaces (Builtin.Slice.sliceAdjust lo hi k items.size).1 (Builtin.Slice.sliceAdjust lo hi k items.size).2 k)).filterMap (fun (m : Nat) => items[((Builtin.Slice.sliceAdjust lo hi k items.size).1 + (m : Int) * k).toNat]?)
      = (stepIx lo hi k items.size).filterMap fun m => items[m]? := by
    unfold stepIx
    rw [List.filterMap_map]
    rfl
  rw [e]
  first
    | exact wpAny_bind (m := Builtin.Tuple.tupleExact _) (wpAny_newObj_type (wpAny_pure ⟨_, rfl, wpAny_pure h⟩) htake)
    | exact wpAny_bind (m := Builtin.Tuple.tupleExact _) (wpAny_newObj_type (wpAny_bind (wpAny_pure (wpAny_pure ⟨_, rfl, wpAny_pure h⟩))) htake)
    | exact wpAny_bind (wpAny_bind (m := Builtin.Tuple.tupleExact _) (wpAny_newObj_type (wpAny_pure (wpAny_pure ⟨_, rfl, wpAny_pure h⟩)) htake))
    | exact wpAny_bind (wpAny_bind (m := Builtin.Tuple.tupleExact _) (wpAny_newObj_type (wpAny_pure ⟨_, rfl, wpAny_pure h⟩) htake))
end
theorem pe_tupStep {e : Expr} {te : TE} {lo hi : Option Expr} {st : Expr} {ol oh : Option Int} {k : Int} {p3 pos : Pos} (he : PE X e te) (hl : PCn X lo ol) (hh : PCn X hi oh) (hk : PCn X (some st) (some k)) (h0 : k ≠ 0) (h1 : k ≠ 1) : PE X (.Subscript e (.Slice lo hi (some st) p3) pos) (tTupStep X.K te ol oh k) := by
  refine ⟨fun pins s σ H Q I h => ?_⟩
  refine Subscript_ (thn (he.run pins s σ H _ I h) fun v s1 ⟨x, H1, I1, r1, q1⟩ => ?_)
  obtain ⟨a, xs, ex, hx, hsz, q⟩ := q1
  subst ex
  cases r1
  refine wpAny_Slice (hl.run pins s1 σ H1 _ I1 fun vl pl s2 I2 => hh.run pins s2 σ H1 _ I2 fun vu pu s3 I3 => hk.run pins s3 σ H1 _ I3 fun vs ps s4 I4 => ?_)
  have I5 : Inv X pins σ H1 { s4 with heap := s4.heap.push { cls := .type "slice", data := .fields #[vl, vu, vs] } } := I4.kept (t' := s4.toks) fun b ob q => Heap.get?_push_of_some _ q
  obtain ⟨its, r, ht, hz⟩ := I5.tuple hx
  have hlen : its.toArray.size = xs.length := by rw [List.size_toArray]; exact r.length.symm
  show wpAny (model X.prog X.w) X.A (subscriptTail e (.Slice lo hi (some st) p3) (.ref a) (.ref s4.heap.objs.size)) (EP X pins σ Q) X.xe { s4 with heap := s4.heap.push { cls := .type "slice", data := .fields #[vl, vu, vs] } }
  refine tail_any (ops := [.ref a, .ref s4.heap.objs.size]) ht.typeIs PyProof.Rows.slot_tuple_getitem.lookup ?_ (by with_unfolding_all rfl)
  refine getItem_tuple_step ht (Heap.IsSliceOf.new _ vl vu vs) pl pu ps h0 h1 ?_ (by rw [hlen]; exact hsz)
  rw [hlen]
  refine ⟨.ref _, _, I5.laid (t' := s4.toks) (o := .tup ((stepIx ol oh k xs.length).filterMap fun m => xs[m]?)) (fun b ob q => Heap.get?_push_of_some _ q) (Nat.le_refl _) ?_, rfl, q _ (I5.hok.fresh (Nat.le_refl _))⟩
  exact ⟨Nat.le_trans (List.length_filterMap_le _ _) hsz, _, vals_pick r _, IsTup.new _ _⟩
end
end BY
namespace B
open PySem L2
open PySem.W (Tup T3 T4 Datum DatumOrd)
open Evl (Ex)
section
variable {α β γ δ : Type} [Py α] [Py β] [Py γ] [Py δ] {K : Fg} {W W' : Wd} {σ : SS} {ε : Ef} {te ta tb tc td : TE}
theorem asc_uniq : ∀ {xs ys : List Int}, xs.Pairwise (· < ·) → ys.Pairwise (· < ·) → (∀ k, k ∈ xs ↔ k ∈ ys) → xs = ys
  | [], [], _, _, _ => rfl
  | [], y :: ys, _, _, h => absurd ((h y).mpr List.mem_cons_self) (by simp)
  | x :: xs, [], _, _, h => absurd ((h x).mp List.mem_cons_self) (by simp)
  | x :: xs, y :: ys, h1, h2, h => by
    obtain ⟨a1, a2⟩ := List.pairwise_cons.mp h1
    obtain ⟨b1, b2⟩ := List.pairwise_cons.mp h2
    have e : x = y := by
      have p := (h x).mp List.mem_cons_self
      have q := (h y).mpr List.mem_cons_self
      rcases List.mem_cons.mp p with p | p
      · exact p
      · rcases List.mem_cons.mp q with q | q
        · exact q.symm
        · have := b1 x p
          have := a1 y q
          omega
    subst e
    rw [asc_uniq a2 b2 fun k => ⟨fun m => ?_, fun m => ?_⟩]
    · rcases List.mem_cons.mp ((h k).mp (List.mem_cons_of_mem _ m)) with e | e
      · subst e; have := a1 _ m; omega
      · exact e
    · rcases List.mem_cons.mp ((h k).mpr (List.mem_cons_of_mem _ m)) with e | e
      · subst e; have := b1 _ m; omega
      · exact e
theorem ev_sortSetA {xs : Tup Int} (h : EvR ε K ta σ W xs) (hl : xs.items.length ≤ 4000) (hp : xs.items.Pairwise (· < ·)) : EvR ε K (BY.tSortSet K ta) σ W xs.items := fun W1 g1 Q k => h W1 g1 _ fun v W2 g2 ⟨a, vs, e, s, r⟩ => by
  have e2 := reps_int r
  subst e2
  refine ⟨a, xs.items, e, SqT.of (W2.sub.et s), hl, fun ns p hs hm hn => ?_⟩
  rw [asc_uniq hs hp hm]
  exact k _ (W2.add p _) (g2.and (W2.grow_add hn)) ⟨p, _, rfl, upd_same, Reps.mono (exExt (W2.grow_add hn).b) r⟩
theorem ei_seqL {xs : List α} (h : EvR ε K te σ W xs) : EvJ ε K (BY.iSeq K te) σ W xs := fun W1 g1 R k => .inl (ei_list h W1 g1 R k)
theorem ei_seqT {xs : Tup α} (h : EvR ε K te σ W xs) : EvJ ε K (BY.iSeq K te) σ W xs.items := fun W1 g1 R k => .inr (ei_tup h W1 g1 R k)
/-- a tuple of four, [::2] -/
theorem ev_stepA {p : T4 α β γ δ} (h : EvR ε K te σ W p) : EvR ε K (BY.tTupStep K te none none 2) σ W (p.a, p.c) := fun W1 g1 Q k => h W1 g1 _ fun v W2 g2 ⟨a, x, y, z, w, e, s, r1, r2, r3, r4⟩ => by
  refine ⟨a, _, e, SqT.of (W2.sub.et s), (by decide : (BY.stepIx none none 2 4).length ≤ sizeLine), fun p hp => ?_⟩
  have e2 : (BY.stepIx none none 2 [x, y, z, w].length).filterMap (fun m => [x, y, z, w][m]?) = [x, z] := by
    have : BY.stepIx none none 2 4 = [0, 2] := by decide
    show (BY.stepIx none none 2 4).filterMap _ = _
    rw [this]
    rfl
  rw [e2]
  exact k _ (W2.add p _) (g2.and (W2.grow_add hp)) ⟨p, x, z, rfl, upd_same, rep_g (W2.grow_add hp) r1, rep_g (W2.grow_add hp) r3⟩
/-- a tuple of four, [2::-2] -/
theorem ev_stepB {p : T4 α β α δ} (h : EvR ε K te σ W p) : EvR ε K (BY.tTupStep K te (some 2) none (-2)) σ W (Tup.mk [p.c, p.a]) := fun W1 g1 Q k => h W1 g1 _ fun v W2 g2 ⟨a, x, y, z, w, e, s, r1, r2, r3, r4⟩ => by
  refine ⟨a, _, e, SqT.of (W2.sub.et s), (by decide : (BY.stepIx (some 2) none (-2) 4).length ≤ sizeLine), fun p hp => ?_⟩
  have e2 : (BY.stepIx (some 2) none (-2) [x, y, z, w].length).filterMap (fun m => [x, y, z, w][m]?) = [z, x] := by
    have : BY.stepIx (some 2) none (-2) 4 = [2, 0] := by decide
    show (BY.stepIx (some 2) none (-2) 4).filterMap _ = _
    rw [this]
    rfl
  rw [e2]
  exact k _ (W2.add p _) (g2.and (W2.grow_add hp)) ⟨p, [z, x], rfl, upd_same, .cons (rep_g (W2.grow_add hp) r3) (.cons (rep_g (W2.grow_add hp) r1) .nil)⟩
theorem ro_rep {xs : List α} {n : Int} (h1 : 0 ≤ n) (h2 : n ≤ 1000) (hl : xs.length ≤ 100) : RO K rRep xs n (List.replicate n.toNat xs).flatten := fun v u W1 ⟨a, vs, e, s, r⟩ ru Q k =>
  ⟨a, n, vs, e, ru, W1.sub.el s, by omega, by omega, Evl.sz_of (by rw [Reps.len r]; exact Nat.le_trans (Nat.mul_le_mul hl (show n.toNat ≤ 1000 by omega)) (by decide)), fun p hp =>
    k _ (W1.add p _) (W1.grow_add hp) ⟨p, _, rfl, upd_same, Reps.mono (exExt (W1.grow_add hp).b) (reps_rep r _)⟩⟩
theorem s_par {D : Ends} {i j : Nat} {P R : V → Wd → Prop} (ha : EvP ε ta σ W P) (hb : EvP ε tb σ W R) (s : ε.I W) (mono : ∀ v W W', Stp ε W W' → P v W → P v W')
    (k : ∀ v u W', Stp ε W W' → P v W' → R u W' → D.nx ((σ.set i (some v)).set j (some u)) W'.H) : tPar i j (tCons ta (tCons tb tNil)) D σ W.H :=
  ha W (.start s) _ fun v W1 g1 p => hb W1 g1 _ fun u W2 g2 r => ⟨v, u, rfl, k v u W2 (g1.trans g2) (mono v W1 W2 g2 p) r⟩
theorem q_par3 {D : Ends} {tz : TS} {i j l : Nat} {P R S : V → Wd → Prop} (ha : EvP ε ta σ W P) (hb : EvP ε tb σ W R) (hc : EvP ε tc σ W S) (s : ε.I W) (m1 : ∀ v W W', Stp ε W W' → P v W → P v W') (m2 : ∀ v W W', Stp ε W W' → R v W → R v W')
    (k : ∀ v u w W', Stp ε W W' → P v W' → R u W' → S w W' → tz D (((σ.set i (some v)).set j (some u)).set l (some w)) W'.H) : tSeq (tPar3 i j l (tCons ta (tCons tb (tCons tc tNil)))) tz D σ W.H :=
  ha W (.start s) _ fun v W1 g1 p => hb W1 g1 _ fun u W2 g2 r => hc W2 (g1.trans g2) _ fun w W3 g3 q => ⟨v, u, w, rfl, k v u w W3 ((g1.trans g2).trans g3) (m1 v W1 W3 (g2.trans g3) p) (m2 u W2 W3 g3 r) q⟩
end
end B
/-! BX: errors that are kept behind their except suite -/
namespace BX
open PySem PySem.Spec PyProof.Rows L2
/-- an error of the class cls that was caught stands at a -/
def ExK (cls : Value) (d : Option Addr) (a : Addr) : HO := .ext fun h => ∃ (oe : Obj) (vs : Array Value), h.get? a = some oe ∧ Zc cls d oe ∧ oe.data = .fields vs
section
variable {X : Cx} {pins : List (Addr × Obj)} {σ : L2.St} {H : Hp} {s : Shared}
/-- an object that isn't tracked is tracked from now on -/
theorem track {a : Addr} {oe : Obj} {vs : Array Value} {cls : Value} {d : Option Addr} (I : L2.Inv X pins σ H s) (ha : s.heap.get? a = some oe) (hz : Zc cls d oe) (hd : oe.data = .fields vs) (n0 : X.s_0.heap.get? a = none) (na : H a = none) (nL : a ≠ X.env.locals) (hp : ∀ p ∈ X.pn ++ pins, p.1 ≠ a) :
    L2.Inv X pins σ (upd H a (ExK cls d a)) s := by
  have ne0 : ∀ b o, X.s_0.heap.get? b = some o → b ≠ a := fun b o e z => by
    rw [z, n0] at e
    cases e
  have neS : ∀ b o, H b = some o → b ≠ a := fun b o e z => by
    rw [z, na] at e
    cases e
  refine ⟨I.ok, I.os, I.bare, ⟨I.base.keep, I.base.slot, fun b o e n hq => ?_, I.base.there, fun b xs e => ?_, fun b o u e => ?_, fun b ps e => ?_⟩, I.loc, I.cell, ?_, fun x c e => ?_, fun p hq => ?_, fun b u e => ?_, I.len⟩
  · rw [upd_ne (ne0 b o e)]
    exact I.base.free b o e n hq
  · have q := I.base.tups b xs e
    rw [upd_ne (neS b _ q)]
    exact q
  · have q := I.base.frzs b o u e
    rw [upd_ne (neS b _ q)]
    exact q
  · obtain ⟨m, q⟩ := I.base.tbls b ps e
    exact ⟨m, by rw [upd_ne (neS b _ q)]; exact q⟩
  · rw [upd_ne (Ne.symm nL)]
    exact I.free
  · have hc : c ≠ a := fun z => by
      obtain ⟨v, o, ho, hv⟩ := I.cell x c e
      rw [z, ha] at ho
      cases ho
      rw [hd] at hv
      cases hv
    rw [upd_ne hc]
    exact I.freeC x c e
  · obtain ⟨e, n, ne, nf, dd⟩ := I.pin p hq
    exact ⟨e, by rw [upd_ne (hp p hq)]; exact n, ne, nf, dd⟩
  · by_cases hb : b = a
    · subst hb
      rw [upd_same] at e
      cases e
      exact ⟨⟨oe, vs, ha, hz, hd⟩, ⟨oe, ha⟩, fun _ _ ⟨o, v, q, r⟩ k => ⟨o, v, k o q, r⟩⟩
    · rw [upd_ne hb] at e
      exact (I.hok b u e).stay (fun c v _ q => q) (fun c q => by rw [upd_ne (neS c _ q)]; exact q) fun c xs q => by rw [upd_ne (neS c _ q)]; exact q
end
/-- what the clause 'except x as n' wishes of an exception of the body, where the error stays behind the suite -/
def wAsK (K : PySem.W.Frag) (c : Value) (i : Nat) (ts : Addr → Value → Option Addr → TS) (Wout : WX) (D : Ends) : WX := fun cls d σ H =>
  ∃ b, PySem.W.exmOne K cls c = some b ∧ (b = true → ∀ a, H a = none → ts a cls d { nx := fun σ' H' => H' a = none → D.nx (σ'.set i none) (upd H' a (ExK cls d a)), rt := D.rt, bk := fun σ' H' => D.bk (σ'.set i none) H', ct := fun σ' H' => D.ct (σ'.set i none) H' } (σ.set i (some (.ref a))) H) ∧
    (b = false → Wout cls d σ H)
section
variable {X : Cx} {x n : Str} {c : Value} {i : Nat} {body suite : List Stmt} {b₀ : Stmt} {np pos pos' : Pos} {tb : WX → TS} {ts : Addr → Value → Option Addr → TS} {Wout : WX}
theorem ps_try_asK (hs : X.stack = X.env :: X.outer) (hf : X.env.frame = some X.env.locals) (hN : X.N.Nodup) (hi : X.N[i]? = some n) (hln : X.env.kindOf n = some .local) (hc : Names X x c) (tk : Takes X Wout)
    (hb : ∀ (W : WX) (pn : List (Addr × Obj)) (xe : Value → Shared → Prop), Takes (X.tr pn xe) W → PassesOwn (model X.prog X.w) X.A X.env xe → PSs (X.tr pn xe) body (tb W))
    (hsu : ∀ (a : Addr) (oe : Obj) (cls : Value) (d : Option Addr) (pn : List (Addr × Obj)), Zc cls d oe → (∃ vs, oe.data = .fields vs) → PSs (X.suite a ((a, oe) :: pn)) (b₀ :: suite) (ts a cls d)) (hex : X.ex = []) :
    PS X (.Try body [.ExceptHandler (some (.Name x np)) (some n) (b₀ :: suite) pos'] [] [] pos) (fun D σ H => tb (wAsK X.K c i ts Wout D) D σ H) := by
  refine ⟨fun pins s σ H D I h => ?_⟩
  have ok := I.ok
  have hfr : X.A.frames = some (X.env :: X.outer) := by rw [ok.frames, hs]
  have hloc : Loc X.env.scope n := .inl hln
  refine wpAny_Try_except ?_
  refine wpAny_mono ((hb (wAsK X.K c i ts Wout D) (X.pn ++ pins) (fun e s₁ => wpAny (model X.prog X.w) X.A (noteFrame e X.env) (fun _ s₂ => wpAny (model X.prog X.w) X.A (setFlight e none) (fun _ s₃ =>
    wpAny (model X.prog X.w) X.A (handleBy e X.env [.ExceptHandler (some (.Name x np)) (some n) (b₀ :: suite) pos']) (SP X pins D) X.xe s₃) X.xe s₂) X.xe s₁) (fun u s' xx => ?_) PassesOwn.looking).run [] s σ H D (I.toTry _) h) (fun f s1 hsp => ?_) (fun e s1 he => he)
  · -- the catch
    obtain ⟨a, B, sI, pins', σ', H', cls, d, rfl, J', nb, up, sky, na, os, ag, b, hb1, hyes, hno⟩ := xx
    have J : L2.Inv X pins σ' H' sI := J'.ofTry ok
    have sky' : Sky B (X.env :: X.outer) a (Zc cls d) X.env.locals s'.heap := by rw [← hs]; exact sky
    show wpAny (model X.prog X.w) X.A (noteFrame (.ref a) X.env) _ _ _
    refine Sky.land Zc.steady hfr hf sky' fun h3 fl3 up3 => ?_
    have J3 : L2.Inv X pins σ' H' { s' with heap := h3 } := J.landed nb fl3.1 (up.trans up3) os ag
    obtain ⟨oe3, vs3, he3, hz3, hd3⟩ := fl3.there
    have notFr : ∀ {h : Heap} {o : Obj} {vs : Array Value}, h.FunFrames B (X.env :: X.outer) → h.get? a = some o → o.data = .fields vs → a ∉ frs (X.env :: X.outer) := fun {h o vs} ff e dd hm => by
      obtain ⟨_, o', e', hnf⟩ := ff.mem hm
      rw [e] at e'; cases e'
      exact hnf _ dd
    have nfr := notFr fl3.2.2.1 he3 hd3
    have nI : sI.heap.get? a = none := by
      cases q : sI.heap.get? a with
      | none => rfl
      | some o =>
        have z := nb a o q (by rw [hs]; exact nfr)
        rw [fl3.2.1] at z
        cases z
    have n0 : X.s_0.heap.get? a = none := by
      cases q : X.s_0.heap.get? a with
      | none => rfl
      | some o =>
        obtain ⟨o', z⟩ := J.base.there a o q (by rw [hex]; exact fun z => nomatch z)
        rw [nI] at z
        cases z
    have npin : ∀ p ∈ X.pn ++ pins, p.1 ≠ a := fun p hp z => by
      have q := (J.pin p hp).1
      rw [z, nI] at q
      cases q
    have nL : a ≠ X.env.locals := fun z => nfr (List.mem_filterMap.mpr ⟨X.env, List.mem_cons_self, by rw [hf, z]⟩)
    have nF : a ∉ X.fs := fun hm => by
      obtain ⟨e, he, q⟩ := List.mem_filterMap.mp hm
      exact nfr (List.mem_filterMap.mpr ⟨e, List.mem_cons_of_mem _ he, q⟩)
    have S3 := J3.suite he3 hd3 na nL nF
    refine wpAny_handleBy_cons (codeAny_handlers_test ?_) (by intro q; cases q)
    have LT : PySem.W.Looks (model X.prog X.w) h3 (typeOf (.ref a)) cls := fun A Q E s k q => wpAny_typeOf_ref (k _ _ he3) (by rw [hz3.1]; exact q)
    have LM := PySem.W.exm_one (M := model X.prog X.w) (J3.kIn) LT hb1
    have test : ∀ {Q : Value → Shared → Prop} {E : Value → Shared → Prop}, Q c { s' with heap := h3 } → wpAny (model X.prog X.w) (X.A.mark (some (.ref a))) (eval (.Name x np) X.env) Q E { s' with heap := h3 } := fun {Q E} q => by
      obtain ⟨hg, hdbg, hm | ⟨hm, hv, hnn⟩⟩ := hc
      · exact ld_glob (X := X.suite a ((a, oe3) :: (X.pn ++ pins))) S3 hg hm q hdbg
      · exact ld_blt (X := X.suite a ((a, oe3) :: (X.pn ++ pins))) S3 hg hm hv q hnn hdbg
    refine test (LM.here ?_)
    cases b with
    | true =>
      refine codeAny_handlers_suite_as ?_
      refine HandSPX.lands_againZ fl3 fun h4 fl4 up4 => ?_
      have J4 : L2.Inv X pins σ' H' { s' with heap := h4 } := J.landed nb fl4.1 ((up.trans up3).trans up4) os ag
      obtain ⟨oe4, vs4, he4, hz4, hd4⟩ := fl4.there
      have S4 := J4.suite he4 hd4 na nL nF
      refine store_ok (X := X.suite a ((a, oe4) :: (X.pn ++ pins))) (v := .ref a) S4 hN hi hloc rfl (fun s5 S5 => ?_) (.inr hln)
      refine wpAny_mono ((hsu a oe4 cls d (X.pn ++ pins) hz4 ⟨_, hd4⟩).run [] s5 _ H' _ S5 (hyes rfl a na)) (fun f s6 hsp => ?_) (fun _ _ z => False.elim z)
      have end_ : ∀ {σ6 : L2.St} {H6 : Hp} {Q : Shared → Prop}, L2.Inv X pins σ6 H6 s6 → (∀ s7, L2.Inv X pins (σ6.set i none) H6 s7 → Q s7) →
          wpAny (model X.prog X.w) X.A (do bindName X.env n .none; unbindBehindTheSuite X.env n pos') (fun _ s7 => Q s7) X.xe s6 := fun {σ6 H6 Q} S6 hq => gone_ok S6 hN hi hln hq
      cases f with
      | next =>
        obtain ⟨σ6, H6, S6, q6⟩ := hsp
        obtain ⟨p1, p2, _⟩ := S6.pin (a, oe4) (List.mem_append_left _ List.mem_cons_self)
        exact end_ (track (S6.unsuite ok) p1 hz4 hd4 n0 p2 nL npin) fun s7 J7 => ⟨_, _, J7, q6 p2⟩
      | brk =>
        obtain ⟨σ6, H6, S6, q6⟩ := hsp
        exact end_ (S6.unsuite ok) fun s7 J7 => ⟨_, _, J7, q6⟩
      | cont =>
        obtain ⟨σ6, H6, S6, q6⟩ := hsp
        exact end_ (S6.unsuite ok) fun s7 J7 => ⟨_, _, J7, q6⟩
      | ret u =>
        obtain ⟨v6, σ6, H6, S6, r6, q6⟩ := hsp
        exact end_ (S6.unsuite ok) fun s7 J7 => ⟨_, _, _, J7, r6, q6⟩
    | false =>
      show wpAny _ X.A (handleBy (.ref a) X.env []) _ _ _
      refine wpAny_handleBy_nil ?_
      obtain ⟨k1, k2, k3, oe, vs, T, oT, ts', he, hz, hd, h1, hr⟩ := id fl3
      unfold PySem.passOn
      refine wpAny_bind (wpAny_field he hd h1 ?_)
      rw [if_neg (show ¬ ((Value.ref T == Value.none) = true) from by simp)]
      have fin : wpAny (model X.prog X.w) X.A (setFlight (.ref a) X.env.frame) (fun _ s4 => wpAny (model X.prog X.w) X.A (throw (.ref a) : Sem Flow) (SP X pins D) X.xe s4) X.xe { s' with heap := h3 } := by
        rw [hf]
        refine HandSPX.setFlight_upZ fl3 fun h4 hh4 up4 => wpAny_throw (tk _ _ ?_)
        exact ⟨a, B, sI, pins, σ', H', cls, d, rfl, J, nb, (up.trans up3).trans up4, .inr (.inr (by rw [hs]; exact hh4)), na, os, ag, hno rfl⟩
      first
        | exact wpAny_bind (wpAny_pure (wpAny_bind fin))
        | exact wpAny_bind fin
  · cases f with
    | next =>
      obtain ⟨σ', H', J', q⟩ := hsp
      exact wpAny_execs_nil ⟨σ', H', J'.ofTry ok, q⟩
    | brk =>
      obtain ⟨σ', H', J', q⟩ := hsp
      exact ⟨σ', H', J'.ofTry ok, q⟩
    | cont =>
      obtain ⟨σ', H', J', q⟩ := hsp
      exact ⟨σ', H', J'.ofTry ok, q⟩
    | ret u =>
      obtain ⟨v, σ', H', J', r, q⟩ := hsp
      exact ⟨v, σ', H', J'.ofTry ok, r, q⟩
end
/-- isinstance(e, c), e an error that was kept -/
def rIsK (K : PySem.W.Frag) : List V → Hp → VK → Prop := fun xs H Q => ∃ (a D : Addr) (c : V) (cv : Value) (b : Bool), xs = [.ref a, c] ∧ H a = some (ExK (.ref D) none a) ∧ ExcC K D ∧ (∀ u, RelV c u → u = cv) ∧ PySem.W.kitOne K (.ref D) cv = some b ∧ Q (.bl b) H
theorem call_isK {X : Cx} : CallR X (.builtin "isinstance") (rIsK X.K) := by
  intro pins s σ H xs us Q I r h
  obtain ⟨a, D, c, cv, b, rfl, ha, C, hcv, e, q⟩ := h
  cases r with
  | cons rx rr =>
    cases rr with
    | cons rt rr =>
      cases rr
      cases rx
      have ec := hcv _ rt
      subst ec
      obtain ⟨oe, vs, hget, hz, hv⟩ := (I.hok a _ ha).1
      have J : PySem.W.InstAt s.heap a oe D none := by
        obtain ⟨oc, od, oda, osl⟩ := oe
        obtain ⟨h1, h2⟩ := hz
        dsimp only at h1 h2 hv
        subst h1 h2 hv
        exact ⟨hget, rfl, rfl, trivial⟩
      exact PySem.W.kia_one (PySem.W.handS_kitx_exc C.hg C.hk C.hs C.hd C.ha C.hn C.ht C.hm) I.kIn J e (fun z => nomatch z) fun tk => ⟨.bl b, H, I.kept (t' := tk) fun _ _ z => z, rfl, q⟩
/-- an error's class, over ValueError, without an __init__ of its own -/
structure ErrC (K : PySem.W.Frag) (C : Addr) : Prop where
  k : PySem.W.keepIn K (.ref C) = true
  q : PySem.W.excIn K C [.type "ValueError", .type "Exception", .type "BaseException", .type "object"] "ValueError.__new__" = true
  s : PySem.W.subIn K (.ref C) (.type "BaseException") = some true
  t : PySem.W.typeIn K (.ref C) = some (.type "type")
  e : PySem.W.exmOne K (.ref C) (.ref C) = some true
  c : ExcC K C
  v : PySem.W.kitOne K (.ref C) (.type "ValueError") = some true
/-- an error of the class at S is what «except S» names -/
theorem exm_self {K : PySem.W.Frag} {S : Addr} (h1 : PySem.W.subIn K (.ref S) (.type "BaseException") = some true) (h2 : PySem.W.isClsIn K S = true) (h3 : PySem.W.typeIn K (.ref S) = some (.type "type")) (h4 : PySem.W.subIn K (.ref S) (.ref S) = some true) :
    PySem.W.exmOne K (.ref S) (.ref S) = some true := by
  have e1 : (PySem.W.subIn K (.ref S) (.type "BaseException") == some true) = true := by rw [h1] <;> rfl
  have e2 : ((PySem.W.clsIn K S).isSome && PySem.W.typeIn K (.ref S) == some (.type "type")) = true := by
    have h2' : (PySem.W.clsIn K S).isSome = true := h2
    rw [h2', h3] <;> rfl
  show (if (PySem.W.subIn K (.ref S) (.type "BaseException") == some true) = true then (if ((PySem.W.clsIn K S).isSome && PySem.W.typeIn K (.ref S) == some (.type "type")) = true then PySem.W.subIn K (.ref S) (.ref S) else none) else none) = some true
  rw [if_pos e1, if_pos e2]
  exact h4
theorem kit_ve {K : PySem.W.Frag} {C : Addr} {T : String} (hm : PySem.W.kitMeta T = true) (h : PySem.W.subIn K (.ref C) (.type T) = some true) : PySem.W.kitOne K (.ref C) (.type T) = some true := by
  unfold PySem.W.kitOne
  rw [if_neg (show ¬ ((Value.ref C == Value.type T) = true) from fun z => by have := eq_of_beq z; cases this)]
  show (if PySem.W.kitMeta T = true then _ else _) = _
  rw [if_pos hm]
  exact h
/-- raise C('..') out of a def -/
abbrev tRaiseO (C : Addr) (E : XK) : TS := fun _ _ H => E (.ref C) none H
/-- try: body, except C as n (slot i): suite -/
abbrev tTryK (K : PySem.W.Frag) (C : Addr) (i : Nat) (tb : WX → TS) (ts : Addr → Value → Option Addr → TS) : TS := fun D σ H => tb (wAsK K (.ref C) i ts (fun _ _ _ _ => False) D) D σ H
theorem ps_raiseO {X : Cx} {E : XK} {C : Addr} {x m : Str} {j : Nat} {p p2 pos pos2 : Pos} {E₁ : Value → Shared → Prop} (c : ErrC X.K C) (g : X.mg x = some (.ref C)) (hc : X.calm = true) (hs : X.stack = X.env :: X.outer) (hf : X.env.frame = some X.env.locals) (hex : X.ex = [])
    (hx : X.xe = fun e s' => wpAny (model X.prog X.w) X.A (leaving X.env e) (fun _ s'' => L2.CX X.prog X.w X.outer X.H_0 X.s_0 E e s'') E₁ s') (hg : Gl X x) (hdb : (x == ("__debug__" : Str)) = false := by decide) :
    PS X (.Raise (some (.Call (.Name x p) [.Constant (.str m) j p2] [] pos)) none pos2) (tRaiseO C E) :=
  ps_raise hc (takes_of hs hf hex hx) (pmk_own PySem.F.excBase_ValueError c.q g c.k (raises_own c.s c.t) hg hdb)
end BX
/-! BE: errors with fields of their own: made, caught, kept, asked -/
namespace BE
open PySem PySem.Spec PySem.Calls PyProof.Rows
section
open PySem.W
variable {prog : Program} {w : World} {A : Around} {E : Value → Shared → Prop} {s : Shared} {K : Frag} {x D : Addr} {ox : Obj} {od : Option Obj}
theorem find_dataO {C : Addr} {name : Str} {a g : Value} (hc : (clsIn K C).isSome = true) (ha : findIn K (.ref C) name = some (some a)) (hg : specialIn K a "__get__" = some (some g)) (ht : takesIn K a = some true) : findObj K C od name = some (.bind g a) := by
  cases od with
  | none => exact findObj_dataN hc ha hg ht
  | some o => exact findObj_data hc ha hg ht
theorem classE_at {Q : Option Value → Shared → Prop} (C : L2.ExcC K D) (X : K.In s.heap) (I : InstAt s.heap x ox D od) (h : Q (some (.ref D)) { s with toks := s.toks + 1 }) : wpAny (model prog w) A (getAttr? (.ref x) "__class__") Q E s := by
  have hf : findObj K D od "__class__" = some (.bind (.builtin "getset_descriptor.__get__") (.builtin "object.__class__")) := find_dataO (by obtain ⟨cd, hc, _⟩ := any_some C.hd; rw [hc]; rfl) C.ha C.hn C.ht
  obtain ⟨hp, g, d, t, os⟩ := s
  have k0 := I.type (M := model prog w)
  have k1 := looks_findIn (M := model prog w) X C.hg
  have k2 := looks_findIn (M := model prog w) X C.hk
  have k3 := looks_find (M := model prog w) X I hf
  have sb : Looks (model prog w) hp (isInstance (.ref x) (.type "BaseException")) true := k0.andThen (looks_subIn X C.hs)
  have n0 : (false && onTheHeap (Value.builtin "BaseException.__getattribute__")) = false := rfl
  have n2 : (Value.builtin "BaseException.__getattribute__" == Value.builtin "object.__getattribute__") = false := by decide +kernel
  have n1 : (onTheHeap (Value.ref D) && Value.builtin "BaseException.__getattribute__" == Value.builtin "object.__getattribute__") = false := by rw [n2]; rfl
  unfold getAttr? getAttrBy? getAttrBy
  refine wpAny_bind (wpAny_mkText (wpAny_bind (wpAny_attempt (wpAny_holding (wpAny_bind (k0.at (wpAny_bind (k1.at ?_))))))))
  show wpAny _ _ (if (onTheHeap (Value.ref D) && Value.builtin "BaseException.__getattribute__" == Value.builtin "object.__getattribute__") = true then _ else _) _ _ _
  rw [n1, if_neg Bool.false_ne_true]
  unfold getAttrByItsOwn hookBefore
  refine wpAny_bind ?_
  rw [if_pos (show onTheHeap (Value.ref D) = true from rfl)]
  refine k2.at ?_
  refine wpAny_bind (wpAny_attempt (wpAny_holding ?_))
  unfold callGetattribute
  rw [n0, if_neg Bool.false_ne_true]
  unfold boundAndCalled
  rw [PySem.F.excAttr_ValueError.ga.bind (.ref x)]
  refine wpAny_bind (wpAny_pure ?_)
  show wpAny _ _ (call (.builtin "BaseException.__getattribute__") [.ref x, .str "__class__" t]) _ _ _
  refine wpAny_call (codeAny_call_builtin PySem.F.excAttr_ValueError.ga.plain PySem.F.entry_bexc_ga ?_)
  refine @check_slot (model prog w) _ _ ⟨hp, g, d, t + 1, os⟩ "BaseException.__getattribute__" "BaseException" "__getattribute__" (.ref x) [.str "__class__" t] [] _ (by decide +kernel) (by decide +kernel) sb (PySem.F.args_bexc_ga (.ref x) (.str "__class__" t)) ?_
  unfold Builtin.«object.__getattribute__»
  refine wpAny_bind (wpAny_of_eq (a := ((Value.ref x : Value), [Value.str "__class__" t])) (by first | rfl | (simp only [slotArgs]; rfl)) ?_)
  refine wpAny_bind (wpAny_pure (wpAny_bind (k0.at (wpAny_bind (k3.at ?_)))))
  show wpAny _ _ (holding [Value.builtin "object.__class__"] (call (.builtin "getset_descriptor.__get__") [.builtin "object.__class__", .ref x, .ref D]) >>= ret) _ _ _
  refine wpAny_bind (wpAny_holding (wpAny_call (class_get (s := ⟨hp, g, d, t + 1, os⟩) (ox := ox) (od := od) X I C.hm ?_)))
  refine wpAny_pure ?_
  show wpAny _ _ (handedOut (.ref D)) _ _ _
  rw [handedOut_of (v := .ref D) rfl]
  first
    | exact wpAny_pure (wpAny_pure h)
    | exact wpAny_pure h
    | exact wpAny_pure (wpAny_bind (wpAny_pure (wpAny_pure h)))
theorem kit_at (C : L2.ExcC K D) : KitX K (.ref x) (.ref D) (fun h => InstAt h x ox D od) where
  ty := fun _ _ _ I => I.type
  it := fun _ _ X _ => by
    obtain ⟨cd, hc, _⟩ := any_some C.hd
    unfold clsIn at hc
    split at hc
    · rename_i e
      exact fun A' Q' E' s' k q => wpAny_bind (m := loadHead D) (wpAny_loadPart (k _ _ (X _ _ e)) (wpAny_pure q))
    · cases hc
  ne := (handS_kitx_exc (x := x) (ox := ox) C.hg C.hk C.hs C.hd C.ha C.hn C.ht C.hm).ne
  ca := fun X I k => classE_at C X I k
end
open L2
/-- isinstance(e, c), e an error that was kept, with fields or without -/
def rIsF (K : PySem.W.Frag) : List V → Hp → VK → Prop := fun xs H Q => ∃ (a D : Addr) (d : Option Addr) (c : V) (cv : Value) (b : Bool), xs = [.ref a, c] ∧ H a = some (BX.ExK (.ref D) d a) ∧ (∀ dd, d = some dd → ∃ fs, H dd = some (.xd fs)) ∧ ExcC K D ∧ (∀ u, RelV c u → u = cv) ∧ PySem.W.kitOne K (.ref D) cv = some b ∧ Q (.bl b) H
theorem call_isF {X : Cx} : CallR X (.builtin "isinstance") (rIsF X.K) := by
  intro pins s σ H xs us Q I r h
  obtain ⟨a, D, d, c, cv, b, rfl, ha, hd, C, hcv, e, q⟩ := h
  cases r with
  | cons rx rr =>
    cases rr with
    | cons rt rr =>
      cases rr
      cases rx
      have ec := hcv _ rt
      subst ec
      obtain ⟨oe, vs, hget, hz, hv⟩ := (I.hok a _ ha).1
      obtain ⟨od, J⟩ : ∃ od, PySem.W.InstAt s.heap a oe D od := by
        obtain ⟨oc, od, oda, osl⟩ := oe
        obtain ⟨h1, h2⟩ := hz
        dsimp only at h1 h2 hv
        subst h1 h2 hv
        cases od with
        | none => exact ⟨none, hget, rfl, rfl, trivial⟩
        | some dd =>
          obtain ⟨fs, hfs⟩ := hd dd rfl
          have hx : ObjOk X.prog X.w H s.heap dd (.xd fs) := I.hok dd _ hfs
          obtain ⟨mA, hns, _⟩ := hx
          obtain ⟨o2, _, _, ho, _⟩ := hns
          exact ⟨some o2, hget, rfl, rfl, ho⟩
      exact PySem.W.kia_one (kit_at C) I.kIn J e (fun z => nomatch z) fun tk => ⟨.bl b, H, I.kept (t' := tk) fun _ _ z => z, rfl, q⟩
/-- what the written part says of a class with its own __init__ -/
def oexIn (K : PySem.W.Frag) (C : Addr) : Bool := match K.lookup C with
  | some ⟨.type "type", _, .cls cd, sl⟩ => (match cd.mro, sl.toList with
    | .ref C' :: bm, [_, _, _, _, some (.builtin n), _] => C' == C && n == "ValueError.__new__" && !cd.hasDel && cd.hasDict && PySem.HandSPX.refsVE bm
    | _, _ => false)
  | _ => false
theorem oex_mk {K : PySem.W.Frag} {C : Addr} (q : oexIn K C = true) (sa : PySem.W.findIn K (.ref C) "__setattr__" = some (some (.builtin "object.__setattr__"))) (ex : PySem.W.subIn K (.ref C) (.type "BaseException") = some true) (ty : PySem.W.typeIn K (.ref C) = some (.type "type")) (kp : PySem.W.keepIn K (.ref C) = true) : OexC K C := by
  refine ⟨?_, sa, ex, ty, kp⟩
  unfold oexIn at q
  split at q
  · rename_i dd cd sl ho
    split at q
    · rename_i C' bm k0 k1 k2 k3 n k5 hm hs
      simp only [Bool.and_eq_true, beq_iff_eq, Bool.not_eq_true'] at q
      obtain ⟨⟨⟨⟨rfl, rfl⟩, hdel⟩, hdct⟩, ht⟩ := q
      obtain ⟨nm, bs, mro, ns, qn, hd, sn, sub, ab, col, del⟩ := cd
      dsimp only at hm hdel hdct
      subst hm hdel hdct
      obtain ⟨l⟩ := sl
      simp only at hs
      subst hs
      exact ⟨nm, qn, ns, bs, bm, sn, sub, ab, col, dd, k0, k1, k2, k3, k5, ho, ht⟩
    · cases q
  · cases q
/-- raise C(e, ..) out of a def, C's own __init__ keeping sp -/
abbrev tRaiseI (C : Addr) (sp : Sp) (ta : TA) (E : XK) : TS := fun _ σ H => tMkO C sp [] ta σ H E
theorem ps_raiseI {X : Cx} {CX : CXT} {E : XK} {C fI : Addr} {k : Nat} {fd : FuncData} {ps : List Str} {sp : Sp} {x : Str} {e : Expr} {es : List Expr} {ta : TA} {p pos pos2 : Pos} {E₁ : Value → Shared → Prop} (T : OexC X.K C) (iC : PySem.W.findIn X.K (.ref C) "__init__" = some (some (.ref fI))) (tI : PySem.W.typeIn X.K (.ref fI) = some (.type "function"))
    (F1 : FnOk X.prog X.w X.K X.mg X.base CX k fI fd ps sp) (hp : Passes CX X (fun _ _ _ => False)) (hr : Room (k + 1) X.A) (hb : Binds X.K fd ps []) (hg : Gl X x) (hm : X.mg x = some (.ref C)) (ha : PA X (e :: es) ta) (hc : X.calm = true) (hs : X.stack = X.env :: X.outer) (hf : X.env.frame = some X.env.locals) (hex : X.ex = [])
    (hx : X.xe = fun e s' => wpAny (model X.prog X.w) X.A (leaving X.env e) (fun _ s'' => L2.CX X.prog X.w X.outer X.H_0 X.s_0 E e s'') E₁ s') (hdb : (x == ("__debug__" : Str)) = false := by decide)
    (he : starEach (e :: es) X.env = (false, eval e X.env) :: starEach es X.env := by rfl) (hpl : (backTo pos (starEach es X.env)).any (·.1) = false := by rfl) :
    PS X (.Raise (some (.Call (.Name x p) (e :: es) [] pos)) none pos2) (tRaiseI C sp ta E) :=
  ps_raise hc (takes_of hs hf hex hx) (pmk_oex (dvs := []) T iC tI F1 hr hb .nil hp hg hm ha hdb he hpl)
end BE
namespace B
open PySem L2
/-- s.upper() -/
abbrev rUpper : V → List V → Hp → VK → Prop := fun x xs H Q => ∃ a, x = .str a ∧ xs = [] ∧ a.length ≤ 5592405 ∧ Q (.str (Txt.upper a)) H
end B
/-! BV: errors made and held as values: asked of what class, their fields read -/
namespace BV
open PySem PySem.Spec PySem.Calls PyProof.Rows
open L2
/-- an error of the class at D stands at a -/
def ErA (H : Hp) (a D : Addr) (fs : List (Str × V)) : Prop := (fs = [] ∧ H a = some (ExO (.ref D) a)) ∨ ∃ dx, H a = some (exo a D (some dx)) ∧ H dx = some (exd dx fs)
/-- C(e), a class without own __init__ -/
def tErrO (C : Addr) (ta : TE) : TE := fun σ H Q => ta σ H fun _ H1 => ∀ a, H1 a = none → Q (.ref a) (upd H1 a (ExO (.ref C) a))
theorem pe_errO {X : Cx} {C : Addr} {x : Str} {e : Expr} {ta : TE} {p pos : Pos} (c : BX.ErrC X.K C) (g : X.mg x = some (.ref C)) (hg : Gl X x) (he : PE X e ta)
    (hs : starEach [e] X.env = (false, eval e X.env) :: starEach [] X.env := by rfl) (hdb : (x == ("__debug__" : Str)) = false := by decide) : PE X (.Call (.Name x p) [e] [] pos) (tErrO C ta) :=
  pe_exc1 PySem.F.excBase_ValueError c.q g c.k hg he hs hdb
/-- C(e, ..), C's own __init__ keeping sp -/
def tErrI (C : Addr) (sp : Sp) (dvs : List V) (ta : TA) : TE := fun σ H Q => ta σ H fun vs H1 => vs.length ≤ 1000 ∧ ∀ a, H1 a = none → sp (.ref a :: (vs ++ dvs)) (upd H1 a (exo a C none))
  (fun v H2 => v = .non ∧ Q (.ref a) H2) (fun _ _ _ => False)
theorem pe_errI {X : Cx} {CX : CXT} {x : Str} {C fI : Addr} {k : Nat} {fd : FuncData} {ps : List Str} {sp : Sp} {e : Expr} {es : List Expr} {ta : TA} {p pos : Pos} {ds : List Value} {dvs : List V} (T : OexC X.K C) (iC : PySem.W.findIn X.K (.ref C) "__init__" = some (some (.ref fI))) (tI : PySem.W.typeIn X.K (.ref fI) = some (.type "function"))
    (F1 : FnOk X.prog X.w X.K X.mg X.base CX k fI fd ps sp) (hx : Passes CX X (fun _ _ _ => False)) (hr : Room (k + 1) X.A) (hb : Binds X.K fd ps ds) (hd : Vals dvs ds) (hg : Gl X x) (hm : X.mg x = some (.ref C)) (ha : PA X (e :: es) ta)
    (hdb : (x == ("__debug__" : Str)) = false := by decide) (he : starEach (e :: es) X.env = (false, eval e X.env) :: starEach es X.env := by rfl) (hpl : (backTo pos (starEach es X.env)).any (·.1) = false := by rfl) :
    PE X (.Call (.Name x p) (e :: es) [] pos) (tErrI C sp dvs ta) := by
  refine ⟨fun pins s σ H Q I h => ?_⟩
  obtain ⟨nm, q, N, bs, bm, sn, sub, ab, col, dd, k0, k1, k2, k3, k5, hC, hbm⟩ := T.cls
  refine wpAny_Call_Name_kw (ld_glob I hg hm ?_ hdb)
  refine PySem.W.callWith_K (h₀ := X.base) I.ok.mod.kin T.kC (thn (ha.run pos pins s σ H _ I h) fun us s1 ⟨vs, H1, I1, r1, hz, q1⟩ => ⟨I1.kIn, ?_⟩) he hpl
  show wpAny _ _ (call (.ref C) us) _ _ _
  obtain ⟨hp, g, dr, tk, os⟩ := s1
  have hsz : hp.objs.size ≤ hp.objs.size + 1 := Nat.le_succ _
  have hn : H1 (hp.objs.size + 1) = none := I1.hok.fresh hsz
  have hq := q1 (hp.objs.size + 1) hn
  have kk : ∀ b o, hp.get? b = some o → ((hp.push (PySem.W.kdv_tup us)).push (PySem.HandSPX.excO C hp.objs.size)).get? b = some o := fun b o e => Heap.get?_push_of_some _ (Heap.get?_push_of_some _ e)
  have hget : ((hp.push (PySem.W.kdv_tup us)).push (PySem.HandSPX.excO C hp.objs.size)).get? (hp.objs.size + 1) = some (PySem.HandSPX.excO C hp.objs.size) := by heap_get
  have I2 : Inv X pins σ (upd H1 (hp.objs.size + 1) (exo (hp.objs.size + 1) C none)) ⟨(hp.push (PySem.W.kdv_tup us)).push (PySem.HandSPX.excO C hp.objs.size), g, dr, tk, os⟩ :=
    I1.laid (t' := tk) (a := hp.objs.size + 1) (o := exo (hp.objs.size + 1) C none) (h' := (hp.push (PySem.W.kdv_tup us)).push (PySem.HandSPX.excO C hp.objs.size)) kk hsz (exo_ok hget)
  have r2 : Vals (V.ref (hp.objs.size + 1) :: (vs ++ dvs)) (Value.ref (hp.objs.size + 1) :: (us ++ ds)) := .cons rfl (r1.append hd)
  have hl : (Value.ref (hp.objs.size + 1) :: us ++ ds).length = ps.length := by
    have e := r2.length
    rw [F1.len _ _ _ _ hq] at e
    exact e.symm
  have hus : us.length ≤ sizeLine := by
    rw [← Paired.length r1, sizeLine_eq]
    omega
  refine wpAny_call (PySem.HandSPX.call_own F.excBase_ValueError (fun Y => PySem.HandSPX.refsVE_contains Y bm hbm) (I1.kIn _ _ hC) (PySem.W.looks_findIn I1.kIn iC) (fun self => PySem.W.bind_fn I1.kIn self tI) hus
    (codeAny_mono (F1.run _ X.stack _ _ ⟨Value.ref (hp.objs.size + 1) :: us, []⟩ (Value.ref (hp.objs.size + 1) :: (us ++ ds)) _ _ (fun _ _ _ => False) (hr.make C us []) (I2.env0.make C us []) (hb _ (Value.ref (hp.objs.size + 1) :: us) I2.kIn hl) r2 hq) fun r s' hq' => ?_))
  cases r with
  | error er => exact hx pins σ _ _ er s' I2 hq'
  | ok fl =>
    cases fl with
    | ret u =>
      obtain ⟨v, H2, os2, bare2, un2, hok2, rv, ev, q2⟩ := hq'
      subst ev
      obtain ⟨h2, g2, d2, t2, os'⟩ := s'
      exact ⟨rv, .ref (hp.objs.size + 1), H2, I2.call' (ch := []) os2 un2 hok2 bare2 (fun b z => absurd z (by simp)), rfl, q2⟩
    | next => exact False.elim hq'
    | brk => exact False.elim hq'
    | cont => exact False.elim hq'
/-- isinstance(e, c), e an error held as a value -/
def rIsV (K : PySem.W.Frag) : List V → Hp → VK → Prop := fun xs H Q => ∃ (a D : Addr) (fs : List (Str × V)) (c : V) (cv : Value) (b : Bool), xs = [.ref a, c] ∧ ErA H a D fs ∧ ExcC K D ∧ (∀ u, RelV c u → u = cv) ∧ PySem.W.kitOne K (.ref D) cv = some b ∧ Q (.bl b) H
theorem call_isV {X : Cx} : CallR X (.builtin "isinstance") (rIsV X.K) := by
  intro pins s σ H xs us Q I r h
  obtain ⟨a, D, fs, c, cv, b, rfl, ha, C, hcv, e, q⟩ := h
  cases r with
  | cons rx rr =>
    cases rr with
    | cons rt rr =>
      cases rr
      cases rx
      have ec := hcv _ rt
      subst ec
      obtain ⟨oe, od, J⟩ : ∃ oe od, PySem.W.InstAt s.heap a oe D od := by
        rcases ha with ⟨_, ha⟩ | ⟨dx, ha, hd⟩
        · obtain ⟨oe, vs, hget, hz, hv, _⟩ := (I.hok a _ ha).1
          obtain ⟨oc, od, oda, osl⟩ := oe
          obtain ⟨h1, h2⟩ := hz
          dsimp only at h1 h2 hv
          subst h1 h2 hv
          exact ⟨_, none, hget, rfl, rfl, trivial⟩
        · obtain ⟨t1, hget⟩ := exo_at I.hok ha
          obtain ⟨mA, hns, _⟩ := exd_at I.hok hd
          obtain ⟨o2, _, _, ho, _⟩ := hns
          exact ⟨_, some o2, hget, rfl, rfl, ho⟩
      exact PySem.W.kia_one (BE.kit_at C) I.kIn J e (fun z => nomatch z) fun tk => ⟨.bl b, H, I.kept (t' := tk) fun _ _ z => z, rfl, q⟩
/-- e.f, e an error held as a value -/
def tXv (K : PySem.W.Frag) (f : Str) (te : TE) : TE := fun σ H Q => te σ H fun x H1 => ∃ (a C dx : Addr) (fs : List (Str × V)) (v : V), x = .ref a ∧ H1 a = some (exo a C (some dx)) ∧ H1 dx = some (exd dx fs) ∧ XfC K C ∧ PySem.W.findIn K (.ref C) f = some none ∧ fs.lookup f = some v ∧ Q v H1
theorem pe_xv {X : Cx} {e : Expr} {te : TE} {pos : Pos} {n : Str} (he : PE X e te) (hb : attributeBase e n X.env (eval e X.env) = eval e X.env := by rfl) : PE X (.Attribute e n pos) (tXv X.K n te) := by
  refine ⟨fun pins s σ H Q I h => ?_⟩
  refine attr_of hb (thn (he.run pins s σ H _ I h) fun u s1 hh => ?_)
  obtain ⟨x, H1, I1, rx, a, C, dd, fs, v, ex, ha, ea, T, hno, l, q⟩ := hh
  subst ex
  obtain rfl : u = Value.ref a := rx
  obtain ⟨t1, hget⟩ := exo_at I1.hok ha
  obtain ⟨mA, hns, hr⟩ := exd_at I1.hok ea
  obtain ⟨od, ho, hl⟩ := lookIn_ns hns
  obtain ⟨u, hu, ru⟩ := RelO.some_of (v := v) (o := mA n) (by rw [← l]; exact hr n)
  have J : PySem.W.InstAt s1.heap a _ C (some od) := ⟨hget, rfl, rfl, ho⟩
  exact HandSPX.exc_get I1.kIn J T.ga T.gg T.exC (PySem.W.findObj_own T.hdC hno rfl (by rw [hl, hu])) (handed_of ru) ⟨v, H1, I1.tok _, ru, q⟩
end BV
namespace B
open PySem L2
/-- i // j, the divisor of any size up to 10 ** 30 -/
abbrev oDivW : R2 := rI CDivW fun i j => .int (i / j)
/-- a text so many times -/
def rMulS : R2 := fun x y H Q => ∃ i n, x = .str i ∧ y = .int n ∧ MulOk i n ∧ Q (.str (Txt.mul i n)) H
theorem op_mulS {X : Cx} : OpR X (binaryOp .Mult) rMulS := by
  intro pins s σ H x y v u Q I rx ry h
  obtain ⟨i, n, rfl, rfl, hz, q⟩ := h
  obtain ⟨t, rfl⟩ := rx
  obtain ⟨t', rfl⟩ := ry
  exact SB.mul hz fun t' tk => ⟨.str (Txt.mul i n), H, I.tok _, ⟨_, rfl⟩, q⟩
end B
/-! B: shifts; odd things of any kind; slices of a tuple of four -/
namespace B
open PySem L2
open PySem.W (Tup T3 T4 Datum DatumOrd)
open Evl (Ex)
abbrev oShl : R2 := rI CPow fun i j => .int (i * 2 ^ j.toNat)
abbrev oShr : R2 := rI (fun _ j => 0 ≤ j) fun i j => .int (i / 2 ^ j.toNat)
abbrev oAnd : R2 := rI0 fun i j => .int (Builtin.bitAnd i j)
/-- a thing of any kind -/
inductive Odd where
  | int (n : Int) | bl (b : Bool) | non | str (s : Str) | tup (ns : List Int) | lst (ns : List Int) | dct
def oRep (K : Fg) (H : Hp) (v : V) : Odd → Prop
  | .int n => rep K H v n
  | .bl b => rep K H v b
  | .non => rep K H v ()
  | .str s => rep K H v s
  | .tup n => rep K H v (Tup.mk n)
  | .lst n => rep K H v n
  | .dct => rep K H v (⟨[]⟩ : Dict Int Int)
theorem oRep_mono {K : Fg} {H H' : Hp} {v : V} (e : Ext H H') : ∀ {o : Odd}, oRep K H v o → oRep K H' v o
  | .int n, h => Py.mono (α := Int) e h
  | .bl b, h => Py.mono (α := Bool) e h
  | .non, h => Py.mono (α := Unit) e h
  | .str s, h => Py.mono (α := Str) e h
  | .tup n, h => Py.mono (α := Tup Int) e h
  | .lst n, h => Py.mono (α := List Int) e h
  | .dct, h => Py.mono (α := Dict Int Int) e h
instance : Py Odd := ⟨oRep, fun e h => oRep_mono e h⟩
def Odd.cls : Odd → String
  | .int _ => "int" | .bl _ => "bool" | .non => "NoneType" | .str _ => "str" | .tup _ => "tuple" | .lst _ => "list" | .dct => "dict"
theorem ty_dct {K : Fg} {κ α : Type} [PyKey κ] [Py α] {d : Dict κ α} (W1 : Wd) (v : V) (h : rep K W1.B v d) : TyX K W1.H v (.type "dict") := by
  obtain ⟨a, ks, rfl, h1, _⟩ := h
  rcases W1.sub.rd h1 with z | ⟨o, z⟩
  · exact .base (.dK z)
  · exact .fDict z
theorem ty_odd {K : Fg} (W1 : Wd) (v : V) : ∀ (o : Odd), rep K W1.B v o → TyX K W1.H v (.type o.cls)
  | .int n, h => ty_int W1 v h
  | .bl b, h => ty_bl W1 v h
  | .non, h => ty_non W1 v h
  | .str s, h => ty_str W1 v h
  | .tup n, h => ty_tup W1 v h
  | .lst n, h => ty_lst W1 v h
  | .dct, h => ty_dct W1 v h
def Odd.isI : Odd → Bool
  | .int _ => true | .bl _ => true | _ => false
def Odd.isB : Odd → Bool
  | .bl _ => true | _ => false
theorem odd_kitI : ∀ o : Odd, kitB o.cls "int" = some o.isI
  | .int _ => (by decide +kernel : kitB "int" "int" = some true)
  | .bl _ => (by decide +kernel : kitB "bool" "int" = some true)
  | .non => (by decide +kernel : kitB "NoneType" "int" = some false)
  | .str _ => (by decide +kernel : kitB "str" "int" = some false)
  | .tup _ => (by decide +kernel : kitB "tuple" "int" = some false)
  | .lst _ => (by decide +kernel : kitB "list" "int" = some false)
  | .dct => (by decide +kernel : kitB "dict" "int" = some false)
theorem odd_kitB : ∀ o : Odd, kitB o.cls "bool" = some o.isB
  | .int _ => (by decide +kernel : kitB "int" "bool" = some false)
  | .bl _ => (by decide +kernel : kitB "bool" "bool" = some true)
  | .non => (by decide +kernel : kitB "NoneType" "bool" = some false)
  | .str _ => (by decide +kernel : kitB "str" "bool" = some false)
  | .tup _ => (by decide +kernel : kitB "tuple" "bool" = some false)
  | .lst _ => (by decide +kernel : kitB "list" "bool" = some false)
  | .dct => (by decide +kernel : kitB "dict" "bool" = some false)
section
variable {α β γ δ : Type} [Py α] [Py β] [Py γ] [Py δ] {K : Fg} {W W' : Wd} {σ : SS} {ε : Ef} {te ta tb tc td : TE}
theorem ev_oI {n : Int} (h : EvR ε K te σ W n) : EvR ε K te σ W (Odd.int n) := h
theorem ev_oB {n : Bool} (h : EvR ε K te σ W n) : EvR ε K te σ W (Odd.bl n) := h
theorem ev_oN (h : EvR ε K te σ W ()) : EvR ε K te σ W Odd.non := h
theorem ev_oS {n : Str} (h : EvR ε K te σ W n) : EvR ε K te σ W (Odd.str n) := h
theorem ev_oT {n : List Int} (h : EvR ε K te σ W (Tup.mk n)) : EvR ε K te σ W (Odd.tup n) := h
theorem ev_oL {n : List Int} (h : EvR ε K te σ W n) : EvR ε K te σ W (Odd.lst n) := h
theorem ev_oD (h : EvD ε K te σ W (⟨[]⟩ : Dict Int Int)) : EvR ε K te σ W Odd.dct := h.rep
/-- [:2] and [2:] of a tuple of four -/
theorem ev_slQa {p : T4 α β γ δ} (h : EvR ε K te σ W p) : EvR ε K (tSl (rSlA K) te tNoPart (tPart (tC (.int 2)))) σ W (p.a, p.b) := fun W1 g1 Q k => h W1 g1 _ fun v W2 g2 ⟨a, x, y, z, w, e, s, r1, r2, r3, r4⟩ =>
  ⟨2, rfl, a, [x, y, z, w], e, SqT.of (W2.sub.et s), fun h0 => absurd h0.2 (by show ¬ (min 2 4 = 4); decide), fun _ p hp => k _ (W2.add p (.tup [x, y])) (g2.and (W2.grow_add hp)) ⟨p, x, y, rfl, upd_same, rep_g (W2.grow_add hp) r1, rep_g (W2.grow_add hp) r2⟩⟩
theorem ev_slQb {p : T4 α β γ δ} (h : EvR ε K te σ W p) : EvR ε K (tSl (rSlA K) te (tPart (tC (.int 2))) tNoPart) σ W (p.c, p.d) := fun W1 g1 Q k => h W1 g1 _ fun v W2 g2 ⟨a, x, y, z, w, e, s, r1, r2, r3, r4⟩ =>
  ⟨2, rfl, a, [x, y, z, w], e, SqT.of (W2.sub.et s), fun h0 => absurd h0.1 (by show ¬ (min 2 4 = 0); decide), fun _ p hp => k _ (W2.add p (.tup [z, w])) (g2.and (W2.grow_add hp)) ⟨p, z, w, rfl, upd_same, rep_g (W2.grow_add hp) r3, rep_g (W2.grow_add hp) r4⟩⟩
theorem rc_min {xs : List Int} {m : Int} (h1 : m ∈ xs) (h2 : ∀ y ∈ xs, m ≤ y) : RC1 K (rMin K) xs m := fun v W1 ⟨a, vs, e, s, r⟩ Q k => ⟨a, xs, by rw [e], by rw [← reps_int r]; exact SqL.of (W1.sub.el s), List.length_pos_of_mem h1, fun m' h3 h4 => by
  have : m' = m := Int.le_antisymm (h4 m h1) (h2 m' h3)
  rw [this]
  exact k _ W1 (.refl _ _) rfl⟩
end
end B
/-! BY: a set made of a list, by what its filling promises -/
namespace BY
open PySem PySem.Spec PyProof.Rows L2
section
variable {P : Program} {w : World} {A : Around} {E : Value → Shared → Prop} {s : Shared}
abbrev set0 (w : World) : Obj := { cls := .type "set", dict := none, data := .set #[] 0 (.fresh 0 0 (!w.params.followText "set-order")) }
abbrev it0 (l : Addr) : Obj := { cls := .type "list_iterator", data := .fields #[.ref l, .int 0 0] }
set_option maxHeartbeats 8000000 in
theorem set_of_list {l : Addr} {items : Array Value} {Q : Value → Shared → Prop} {Pz : Heap → Nat → Prop} (hl : s.heap.IsList l items)
    (hloop : ∀ R : Result → Shared → Prop, (∀ h' tk, Pz h' tk → R (.ok (.ret .none)) { s with heap := h', toks := tk }) →
      codeAny (model P w) A.in1.in1 (.builtin "set.update.loop" ⟨[.ref s.heap.objs.size, .ref (s.heap.push (set0 w)).objs.size], []⟩) R { s with heap := (s.heap.push (set0 w)).push (it0 l) })
    (h : ∀ h' tk, Pz h' tk → Q (.ref s.heap.objs.size) { s with heap := h', toks := tk }) : wpAny (model P w) A (call (.type "set") [.ref l]) Q E s := by
  obtain ⟨c, tl, hmro⟩ := F.called_set.mro
  have i1 := F.called_set.made
  have i2 := F.called_set.sub
  have i3 := F.called_set.notType
  have i4 := F.called_set.canCreate
  have i5 := F.typeCall_set_1 (.ref l)
  refine wpAny_call (codeAny_of_tree ?_)
  show wpAny _ _ (callAny (.type "set") _) _ _ _
  refine wpAny_pure ⟨Code.quiet_builtin _ (by decide +kernel), codeAny_builtin F.entry_type_call ?_⟩
  rw [Around.under_plain (weight_type_call_type "set" [.ref l] []) rfl]
  repeat (any_goals (first | assumption | wp_step))
  refine codeAny_mono (code_set_led1 (.ref l) (E := E) (Q₁ := fun x t => x = .ref s.heap.objs.size ∧ t = { s with heap := s.heap.push (set0 w) }) ⟨rfl, rfl⟩) fun r t hr => ?_
  match r, hr with
  | .error e, hr => exact hr
  | .ok .next, hr => exact hr.elim
  | .ok .brk, hr => exact hr.elim
  | .ok .cont, hr => exact hr.elim
  | .ok (.ret x), hr =>
    obtain ⟨rfl, rfl⟩ := hr
    have at0 : (s.heap.push (set0 w)).get? s.heap.objs.size = some (set0 w) := Heap.get?_push_size _ rfl
    have ty0 : Shared.TypeIs { s with heap := s.heap.push (set0 w) } (.ref s.heap.objs.size) "set" := ⟨_, at0, rfl⟩
    have j1 := F.called_set.init.lookup
    have j2 := F.called_set.init.bind (.ref s.heap.objs.size)
    repeat (any_goals (first | assumption | wp_step))
    refine codeAny_mono (codeAny_call_builtin (R := wants (fun r t => r = .none ∧ ∃ h' tk, t = { s with heap := h', toks := tk } ∧ Pz h' tk) E) F.called_set.init.plain F.entry_set_init (check_set_init_1 ty0 ?_)) fun r t hr => ?_
    · obtain ⟨⟨oc, od, oda, osl⟩, ho, hc, ne, hd⟩ := hl
      simp only at hc hd
      subst hc
      subst hd
      have ho' : (s.heap.push (set0 w)).get? l = some { cls := .type "list", dict := od, data := .seq items ne, slots := osl } := Heap.get?_push_of_some _ ho
      have k1 := F.sub_list_set
      have k2 := F.sub_list_frozenset
      have k3 : (Value.type "list" == Value.type "dict") = false := by decide
      have il : (s.heap.push (set0 w)).IsList l items := ⟨_, ho', rfl, ne, rfl⟩
      unfold Builtin.«set.__init__» noKeywords Builtin.Frozenset.updateFrom
      generalize hPI : pyIter = PI
      wp_walk
      subst hPI
      refine wpAny_pyIter_list il (wpAny_bind (wpAny_runValue (hloop _ fun h' tk q => ?_)))
      show wpAny _ _ _ _ _ _
      refine wpAny_pure ?_
      show wpAny _ _ (ret Value.none) _ _ _
      exact wpAny_pure ⟨rfl, h', tk, rfl, q⟩
    · match r, hr with
      | .error e, hr => exact hr
      | .ok .next, hr => exact hr.elim
      | .ok .brk, hr => exact hr.elim
      | .ok .cont, hr => exact hr.elim
      | .ok (.ret x), hr =>
        obtain ⟨rfl, h', tk, rfl, q⟩ := hr
        repeat (any_goals (first | assumption | wp_step))
        exact h _ _ q
/-- set(xs), a list of ints -/
theorem set_listI {l : Addr} {items : Array Value} {ns : List Int} {Q : Value → Shared → Prop} (hh : A.handled = none) (hl : s.heap.IsList l items) (hit : IntsAre items.toList ns) (hb : ns.length + 1 < scanBound)
    (h : ∀ (h' : Heap) (tk c : Nat), SetR w h' s.heap.objs.size (fun j => decide (j ∈ ns)) c → c ≤ ns.length → (∀ b o, s.heap.get? b = some o → h'.get? b = some o) → Q (.ref s.heap.objs.size) { s with heap := h', toks := tk }) :
    wpAny (model P w) A (call (.type "set") [.ref l]) Q E s := by
  have hn : items.size = ns.length := by
    have := IntsAre.length hit
    rwa [Array.length_toList] at this
  have lt : l < s.heap.objs.size := by
    obtain ⟨o, ho, _⟩ := hl
    exact Heap.lt_size ho
  have sz : (s.heap.push (set0 w)).objs.size = s.heap.objs.size + 1 := Heap.size_push ..
  have at0 : (s.heap.push (set0 w)).get? s.heap.objs.size = some (set0 w) := Heap.get?_push_size _ rfl
  refine set_of_list (Pz := fun h' tk => ∃ c, SetR w h' s.heap.objs.size (fun j => decide (j ∈ ns)) c ∧ c ≤ ns.length ∧ ∀ b o, s.heap.get? b = some o → h'.get? b = some o) hl (fun R k => ?_) fun h' tk ⟨c, q1, q2, q3⟩ => h h' tk c q1 q2 q3
  have il : (s.heap.push (set0 w)).IsList l items := hl.push _
  refine set_update_ints ((Walks.list (by simp [hh]) (s.heap.push (set0 w)).objs.size l (by rw [sz]; exact Nat.ne_of_lt (Nat.lt_succ_of_lt lt)) items).toS) s.heap.objs.size (by rw [sz]; simp only [List.mem_cons, List.not_mem_nil, or_false, not_or]; exact ⟨Nat.ne_of_lt (Nat.lt_succ_self _), Nat.ne_of_gt lt⟩) ns hn hb (fun i v hv => ?_) items.size 0 _ (by omega) (Nat.zero_le _)
    ⟨⟨_, Heap.get?_push_size _ rfl, rfl, rfl⟩, il.push _⟩ ⟨0, Nat.le_refl _, setR_new_at (Heap.get?_push_of_some _ at0)⟩ fun s' c m hc hS => ?_
  · have hi : i < ns.length := by rw [← hn]; exact (Array.getElem?_eq_some_iff.mp hv).1
    obtain ⟨t, e⟩ := PyProof.Rows.IntsAre.int_at hit i v (by rw [Array.getElem?_toList]; exact hv)
    refine ⟨ns[i], t, List.getElem?_eq_getElem hi, ?_⟩
    rw [e, List.getD_eq_getElem?_getD, List.getElem?_eq_getElem hi]
    rfl
  · obtain ⟨h', g', d', tk', os'⟩ := s'
    obtain rfl : g' = s.gens := m.gens
    obtain rfl : d' = s.drawn := m.drawn
    obtain rfl : os' = s.os := m.os
    refine k h' tk' ⟨c, hS, by rw [← hn]; exact hc, fun b o e => ?_⟩
    have hb0 := Heap.lt_size e
    exact m.heap b o (by rw [sz]; simp only [List.mem_cons, List.not_mem_nil, or_false, not_or]; exact ⟨Nat.ne_of_lt hb0, Nat.ne_of_lt (Nat.lt_succ_of_lt hb0)⟩) (Heap.get?_push_of_some _ (Heap.get?_push_of_some _ e))
end
section
variable {X : Cx} {tg : Expr}
/-- sorted(set(xs)), a list of ints -/
def tSortSetL (K : PySem.W.Frag) (ta : TE) : TE := fun σ H Q => ta σ H fun x H1 => ∃ (l : Addr) (ns : List Int), x = .ref l ∧ SqL K H1 l (ns.map V.int) ∧ ns.length ≤ 4000 ∧
  ∀ (ns' : List Int) (p : Addr), ns'.Pairwise (· < ·) → (∀ k, k ∈ ns' ↔ k ∈ ns) → H1 p = none → Q (.ref p) (upd H1 p (.lst (ns'.map V.int)))
theorem pe_sortSetL {a : Expr} {ta : TE} {p p2 q pos : Pos} (hg : Gl X "sorted") (hm : X.mg "sorted" = none) (hg2 : Gl X "set") (hm2 : X.mg "set" = none) (ha : PE X a ta) (hc : X.calm = true := by rfl)
    (na : starEach [a] X.env = (false, eval a X.env) :: starEach [] X.env := by rfl) : PE X (.Call (.Name "sorted" p) [.Call (.Name "set" p2) [a] [] q] [] pos) (tSortSetL X.K ta) := by
  refine ⟨fun pins s σ H Q I h => ?_⟩
  refine Call_ (ld_blt I hg hm (show bootBuiltins "sorted" = some (.builtin "sorted") by decide +kernel) ?_)
  refine PyProof.Rows.callWith_builtin1 (PyProof.Rows.args_cons ?_ rfl) rfl rfl
  refine Call_ (ld_blt I hg2 hm2 boot_set ?_)
  refine PyProof.Rows.callWith_type1 (PyProof.Rows.args_cons (thn (ha.run pins s σ H _ I h) fun v s1 ⟨x, H1, I1, r1, q1⟩ => PyProof.Rows.args_nil ?_) na) na rfl
  obtain ⟨l, ns, rfl, hq, hl, q1⟩ := q1
  cases r1
  obtain ⟨its, r, pl, hz⟩ := I1.list hq
  refine set_listI (I1.ok.hd hc) (items := its.toArray) pl.isList (by simpa using r.ints) (by unfold scanBound; omega) fun h' tk c hS hc' hk => ?_
  refine PyProof.Rows.args_nil ?_
  exact set_sorted (I1.kept hk) hS (by omega) hc q1
/-- enumerate of a row that is a list or a tuple -/
def iEnumSeq (K : PySem.W.Frag) (ta : TA) : TI := fun σ H R => (iEnum K ta σ H R) ∨ (B.iEnumT K ta σ H R)
theorem pi_enumSeq {e : Expr} {ta : TA} {p pos tpos : Pos} {elts : List Expr} {kk : Nat} (hg : Gl X "enumerate") (hm : X.mg "enumerate" = none) (ha : PA X [e] ta) (hs : starEach [e] X.env = [(false, eval e X.env)] := by rfl) :
    PI X (.Tuple elts kk tpos) (.Call (.Name "enumerate" p) [e] [] pos) (iEnumSeq X.K ta) := by
  refine ⟨fun pins s σ H R I h => ?_⟩
  rcases h with h | h
  · exact (pi_enum hg hm ha hs).run pins s σ H R I h
  · exact (B.pi_enumT hg hm ha hs).run pins s σ H R I h
end
end BY
/-! B: values of which something is known, not all (what draws make) -/
namespace B
open PySem L2
open PySem.W (Tup T3 T4 Datum DatumOrd)
open Evl (Ex)
/-- the expression gives some x of which P tells -/
def EvX {α : Type} [Py α] (ε : Ef) (K : Fg) (te : TE) (σ : SS) (W : Wd) (P : α → Prop) : Prop := EvP ε te σ W (fun v W' => ∃ x : α, P x ∧ rep K W'.B v x)
def EvAsX {α : Type} [Py α] (ε : Ef) (K : Fg) (ta : TA) (σ : SS) (W : Wd) (n : Nat) (P : α → Prop) : Prop :=
  ∀ W1, Stp ε W W1 → ∀ Q : List V → Hp → Prop, (∀ vs W2 (xs : List α), Stp ε W1 W2 → Reps K W2.B vs xs → xs.length = n → (∀ x ∈ xs, P x) → Q vs W2.H) → ta σ W1.H Q
section
variable {α β γ : Type} [Py α] [Py β] [Py γ] {K : Fg} {σ : SS} {W : Wd} {ε : Ef} {te ta tb : TE} {tr : TA} {tt : TT} {P P' : α → Prop} {R : β → Prop} {S : γ → Prop}
theorem ex_of {x : α} (h : EvR ε K te σ W x) (p : P x) : EvX ε K te σ W P := fun W1 g1 Q k => h W1 g1 _ fun v W2 g2 r => k v W2 g2 ⟨x, p, r⟩
theorem EvX.imp (h : EvX ε K te σ W P) (i : ∀ x, P x → P' x) : EvX ε K te σ W P' := fun W1 g1 Q k => h W1 g1 _ fun v W2 g2 ⟨x, p, r⟩ => k v W2 g2 ⟨x, i x p, r⟩
theorem ex_op {r : R2} (ha : EvX ε K ta σ W P) (hb : EvX ε K tb σ W R) (ho : ∀ x y, P x → R y → ∃ z, S z ∧ RO K r x y z) : EvX ε K (tOp r ta tb) σ W S := fun W1 g1 Q k =>
  ha W1 g1 _ fun v W2 g2 ⟨x, px, rx⟩ => hb W2 (g1.trans g2) _ fun u W3 g3 ⟨y, py, ry⟩ => by
    obtain ⟨z, sz, o⟩ := ho x y px py
    exact o v u W3 (rep_s g3 rx) ry Q fun w W4 g4 rw => k w W4 (g2.trans (g3.and g4)) ⟨z, sz, rw⟩
theorem ex_cb1 {r : List V → Hp → VK → Prop} (ha : EvX ε K ta σ W P) (ho : ∀ x, P x → ∃ y, R y ∧ RC1 K r x y) : EvX ε K (tCB r (tCons ta tNil)) σ W R := fun W1 g1 Q k =>
  ha W1 g1 _ fun v W2 g2 ⟨x, px, rx⟩ => by
    obtain ⟨y, sy, o⟩ := ho x px
    exact o v W2 rx Q fun w W4 g4 rw => k w W4 (g2.and g4) ⟨y, sy, rw⟩
theorem ex_if {b : Bool} (h : EvT ε tt σ W b) (h1 : b = true → EvX ε K ta σ W P) (h2 : b = false → EvX ε K tb σ W P) : EvX ε K (tIf tt ta tb) σ W P := fun W1 g1 Q k => h W1 g1 _ fun W2 g2 => by
  cases b with
  | true => exact h1 rfl W2 (g1.trans g2) _ fun v W3 g3 r => k v W3 (g2.trans g3) r
  | false => exact h2 rfl W2 (g1.trans g2) _ fun v W3 g3 r => k v W3 (g2.trans g3) r
theorem exa_nil : EvAsX ε K tNil σ W 0 P := fun W1 g1 Q k => k [] W1 [] g1.rf .nil rfl (fun x h => by cases h)
theorem exa_cons {n : Nat} (h : EvX ε K te σ W P) (hr : EvAsX ε K tr σ W n P) : EvAsX ε K (tCons te tr) σ W (n + 1) P := fun W1 g1 Q k =>
  h W1 g1 _ fun v W2 g2 ⟨x, px, rx⟩ => hr W2 (g1.trans g2) _ fun vs W3 xs g3 rs hl hp => k (v :: vs) W3 (x :: xs) (g2.trans g3) (.cons (rep_s g3 rx) rs) (by rw [List.length_cons, hl]) (fun y hy => by
    rcases List.mem_cons.mp hy with e | e
    · rw [e]; exact px
    · exact hp y e)
theorem ex_lst {n : Nat} {ta : TA} (h : EvAsX ε K ta σ W n P) (hl : n ≤ 100000) : EvX ε K (tLst ta) σ W (fun xs : List α => xs.length = n ∧ ∀ x ∈ xs, P x) := fun W1 g1 Q k =>
  h W1 g1 _ fun vs W2 xs g2 rs hn hp => ⟨Evl.sz_of (by rw [Reps.len rs, hn]; exact hl), fun p hq => k _ (W2.add p (.lst vs)) (g2.and (W2.grow_add hq)) ⟨xs, ⟨hn, hp⟩, p, vs, rfl, upd_same, Reps.mono (exExt (W2.grow_add hq).b) rs⟩⟩
/-- an item at a drawn place -/
theorem ep_ixD {xs : List α} (h : EvR ε K ta σ W xs) (hi : EvP ε tb σ W (fun v _ => ∃ r, v = .int r ∧ 0 ≤ r ∧ r < (xs.length : Int))) : EvX ε K (tOp (rIxL K) ta tb) σ W (fun y => y ∈ xs) := fun W1 g1 Q k =>
  h W1 g1 _ fun a W2 g2 ra => hi W2 (g1.trans g2) _ fun u W3 g3 ⟨r, e, h0, h1⟩ => by
    obtain ⟨j, hj⟩ : ∃ j : Nat, r = (j : Int) := ⟨r.toNat, by omega⟩
    have hjl : j < xs.length := by omega
    exact ro_ixL (K := K) (x := xs[j]) (i := r) (by rw [hj]; exact atI_nat (List.getElem?_eq_getElem hjl)) a u W3 (rep_s g3 ra) e Q fun w W4 g4 rw => k w W4 (g2.trans (g3.and g4)) ⟨xs[j], List.getElem_mem _, rw⟩
theorem EvP.imp {P R : V → Wd → Prop} (h : EvP ε te σ W P) (i : ∀ v W, P v W → R v W) : EvP ε te σ W R := fun W1 g1 Q k => h W1 g1 _ fun v W2 g2 p => k v W2 g2 (i _ _ p)
theorem ex_sortSetL {n : Nat} (h : EvX ε K te σ W (fun xs : List Int => xs.length ≤ n)) (hn : n ≤ 4000) : EvX ε K (BY.tSortSetL K te) σ W (fun xs : List Int => xs.length ≤ n) := fun W1 g1 Q k => h W1 g1 _ fun v W2 g2 ⟨xs, hx, a, vs, e, s, r⟩ => by
  have e2 := reps_int r
  subst e2
  refine ⟨a, xs, e, SqL.of (W2.sub.el s), by omega, fun ns p hs hm hq => k _ (W2.add p _) (g2.and (W2.grow_add hq)) ⟨ns, ?_, p, _, rfl, upd_same, int_reps _⟩⟩
  have := nodup_le (hs.imp fun h e => by omega) (m := xs) fun k hk => (hm k).mp hk
  omega
end
end B
/-! BY: sets of keys of any kind, filled; len(set(list of texts)) -/
namespace BY
open PySem PySem.Spec PyProof.Rows L2
section
variable {P : Program} {w : World} {A : Around} {E : Value → Shared → Prop} {s : Shared} {κ : Type} [DecidableEq κ]
def inK (ks : List κ) (j : κ) : Bool := decide (j ∈ ks)
theorem fill_keys {knd : PySem.KeyKind P w κ} {I : Addr} {fp wr : List Addr} {G : Array GenState → Array GenState → Prop} {n : Nat} {Pv : Nat → Value → Prop} {St : Nat → Shared → Prop} {R : Result → Shared → Prop}
    (W : WalksS P w A.in1 I fp wr G n Pv St) {S : Addr} (hSf : S ∉ fp) {ks : List κ} (hn : n = ks.length) (hb : ks.length + 1 < scanBound) (hval : ∀ i v, Pv i v → ∃ k, ks[i]? = some k ∧ knd.is k v = true ∧ v.scannable = true) (hnd : ks.Nodup) :
    ∀ (m i : Nat) (s : Shared), n - i = m → i ≤ n → St i s → s.heap.SetOf knd S (inK (ks.take i)) i →
      (∀ s', Moved (S :: wr) G s s' → s'.heap.SetOf knd S (inK ks) n → R (.ok (.ret .none)) s') → codeAny (model P w) A (.builtin "set.update.loop" ⟨[.ref S, .ref I], []⟩) R s
  | 0, i, s, hm, hi, st, h, k => by
    obtain rfl : i = n := by omega
    have e : ks.take i = ks := List.take_of_length_le (by omega)
    rw [e] at h
    refine codeAny_builtin F.entry_set_update_loop ?_
    rw [Around.under_plainId F.plain_set_update_loop _]
    show wpAny _ A.in1 (pyNext (.ref I) >>= _) _ _ s
    refine wpAny_bind (W.done s _ _ st fun s' mv => ?_)
    have ne : S ∉ wr := fun z => hSf (W.sub _ z)
    obtain ⟨o, es, ep, t, ho, r⟩ := h
    exact wpAny_pure (k s' (mv.mono fun b hb => List.mem_cons_of_mem _ hb) ⟨o, es, ep, t, mv.heap S o ne ho, r⟩)
  | m + 1, i, s, hm, hi, st, h, k => by
    have hlt : i < n := by omega
    have ne : S ∉ wr := fun z => hSf (W.sub _ z)
    refine codeAny_builtin F.entry_set_update_loop ?_
    rw [Around.under_plainId F.plain_set_update_loop _]
    show wpAny _ A.in1 (pyNext (.ref I) >>= _) _ _ s
    refine wpAny_bind (W.item i s _ _ hlt st fun v s' pv st' mv => ?_)
    obtain ⟨x, hx, is, sc⟩ := hval i v pv
    have h' : s'.heap.SetOf knd S (inK (ks.take i)) i := by
      obtain ⟨o, es, ep, t, ho, r⟩ := h
      exact ⟨o, es, ep, t, mv.heap S o ne ho, r⟩
    have hni : x ∉ ks.take i := fun z => by
      obtain ⟨j, hj, e⟩ := List.mem_take_iff_getElem.mp z
      obtain ⟨hi', e2⟩ := List.getElem?_eq_some_iff.mp hx
      exact List.pairwise_iff_getElem.mp hnd j i (by omega) hi' (by omega) (e.trans e2.symm)
    show wpAny _ A.in1 (holding [v] (setAdd S v) >>= _) _ _ s'
    refine wpAny_bind (wpAny_holding ?_)
    unfold setAdd
    refine wpAny_holding (wpAny_bind (knd.pyHash is ?_))
    refine wpAny_setAddHashed_of (s := { s' with toks := s'.toks + 1 }) is sc h' (by omega) fun h2 sb new => ?_
    have new2 : h2.SetOf knd S (inK (ks.take (i + 1))) (i + 1) := by
      rw [if_neg (by unfold inK; rw [decide_eq_true_eq]; exact hni)] at new
      have e : (fun j => inK (ks.take i) j || decide (j = x)) = inK (ks.take (i + 1)) := by
        funext j
        unfold inK
        rw [List.take_add_one, hx]
        simp [List.mem_append]
      rwa [e] at new
    refine wpAny_pure ⟨plainId_quiet F.plain_set_update_loop _, fill_keys W hSf hn hb hval hnd m (i + 1) _ (by omega) hlt (W.frame _ s' _ _ st' (Nat.le_succ _) fun b hb o e => ?_) new2 fun s2 mv2 q => ?_⟩
    · rw [sb.2 b (fun z : b = S => hSf (by rw [← z]; exact hb))]
      exact e
    · refine k s2 (Moved.trans W.gtrans ((mv.mono fun b hb => List.mem_cons_of_mem _ hb).then_heap (Nat.le_succ _) fun b o hb e => ?_) mv2) q
      rw [sb.2 b (fun z => hb (by rw [z]; exact List.mem_cons_self))]
      exact e
/-- texts as keys -/
def keysS (xs : List Str) : List Key := xs.map fun x => Sum.inr x
/-- set(xs), a list of unlike texts -/
theorem set_listS {l : Addr} {its : List Value} {xs : List Str} {Q : Value → Shared → Prop} (hh : A.handled = none) (hl : s.heap.IsList l its.toArray) (r : Vals (xs.map V.str) its) (hb : xs.length + 1 < scanBound) (hnd : xs.Nodup)
    (h : ∀ (h' : Heap) (tk : Nat), h'.SetOf (mixKind P w) s.heap.objs.size (inK (keysS xs)) xs.length → (∀ b o, s.heap.get? b = some o → h'.get? b = some o) → Q (.ref s.heap.objs.size) { s with heap := h', toks := tk }) :
    wpAny (model P w) A (call (.type "set") [.ref l]) Q E s := by
  have hn : its.toArray.size = (keysS xs).length := by
    have := r.length
    rw [List.length_map] at this
    unfold keysS
    rw [List.size_toArray, List.length_map]
    exact this.symm
  have hn' : its.toArray.size = xs.length := by rw [hn]; unfold keysS; rw [List.length_map]
  have lt : l < s.heap.objs.size := by
    obtain ⟨o, ho, _⟩ := hl
    exact Heap.lt_size ho
  have sz : (s.heap.push (set0 w)).objs.size = s.heap.objs.size + 1 := Heap.size_push ..
  have at0 : (s.heap.push (set0 w)).get? s.heap.objs.size = some (set0 w) := Heap.get?_push_size _ rfl
  refine set_of_list (Pz := fun h' tk => h'.SetOf (mixKind P w) s.heap.objs.size (inK (keysS xs)) xs.length ∧ ∀ b o, s.heap.get? b = some o → h'.get? b = some o) hl (fun R k => ?_) fun h' tk ⟨q1, q2⟩ => h h' tk q1 q2
  have il : (s.heap.push (set0 w)).IsList l its.toArray := hl.push _
  refine fill_keys (knd := mixKind P w) (ks := keysS xs) ((Walks.list (by simp [hh]) (s.heap.push (set0 w)).objs.size l (by rw [sz]; exact Nat.ne_of_lt (Nat.lt_succ_of_lt lt)) its.toArray).toS) (by rw [sz]; simp only [List.mem_cons, List.not_mem_nil, or_false, not_or]; exact ⟨Nat.ne_of_lt (Nat.lt_succ_self _), Nat.ne_of_gt lt⟩) hn (by unfold keysS; rw [List.length_map]; exact hb) (fun i v hv => ?_)
    (by unfold keysS; exact List.pairwise_map.mpr (hnd.imp fun ne e => ne (Sum.inr.inj e))) its.toArray.size 0 _ (by omega) (Nat.zero_le _)
    ⟨⟨_, Heap.get?_push_size _ rfl, rfl, rfl⟩, il.push _⟩ ⟨_, #[], 0, _, Heap.get?_push_of_some _ at0, ⟨rfl, rfl, rfl⟩, rfl, (fun e he => by simp at he), (fun k => by simp [inK]), (by decide), (by rfl), rfl⟩ fun s' m hS => ?_
  · have hv' : its[i]? = some v := by simpa using hv
    have hi : i < xs.length := by
      have := (List.getElem?_eq_some_iff.mp hv').1
      rw [← hn', List.size_toArray]
      exact this
    obtain ⟨u, hu, ru⟩ := r.get (i := i) (x := V.str xs[i]) (by rw [List.getElem?_map, List.getElem?_eq_getElem hi]; rfl)
    rw [hv'] at hu
    cases hu
    have rk : RelV (kV (Sum.inr xs[i])) v := ru
    exact ⟨Sum.inr xs[i], by unfold keysS; rw [List.getElem?_map, List.getElem?_eq_getElem hi]; rfl, kV_is rk, key_scan rk⟩
  · obtain ⟨h', g', d', tk', os'⟩ := s'
    obtain rfl : g' = s.gens := m.gens
    obtain rfl : d' = s.drawn := m.drawn
    obtain rfl : os' = s.os := m.os
    refine k h' tk' ⟨by rw [← hn']; exact hS, fun b o e => ?_⟩
    have hb0 := Heap.lt_size e
    exact m.heap b o (by rw [sz]; simp only [List.mem_cons, List.not_mem_nil, or_false, not_or]; exact ⟨Nat.ne_of_lt hb0, Nat.ne_of_lt (Nat.lt_succ_of_lt hb0)⟩) (Heap.get?_push_of_some _ (Heap.get?_push_of_some _ e))
end
section
variable {X : Cx}
/-- len(set(xs)), a list of unlike texts -/
def tLenSetS (K : PySem.W.Frag) (ta : TE) : TE := fun σ H Q => ta σ H fun x H1 => ∃ (l : Addr) (xs : List Str), x = .ref l ∧ SqL K H1 l (xs.map V.str) ∧ xs.Nodup ∧ xs.length ≤ 4000 ∧ Q (.int (xs.length : Nat)) H1
theorem pe_lenSetS {a : Expr} {ta : TE} {p p2 q pos : Pos} (hg : Gl X "len") (hm : X.mg "len" = none) (hg2 : Gl X "set") (hm2 : X.mg "set" = none) (ha : PE X a ta) (hc : X.calm = true := by rfl)
    (na : starEach [a] X.env = (false, eval a X.env) :: starEach [] X.env := by rfl) : PE X (.Call (.Name "len" p) [.Call (.Name "set" p2) [a] [] q] [] pos) (tLenSetS X.K ta) := by
  refine ⟨fun pins s σ H Q I h => ?_⟩
  refine Call_ (ld_blt I hg hm boot_len ?_)
  refine PyProof.Rows.callWith_builtin1 (PyProof.Rows.args_cons ?_ rfl) rfl rfl
  refine Call_ (ld_blt I hg2 hm2 boot_set ?_)
  refine PyProof.Rows.callWith_type1 (PyProof.Rows.args_cons (thn (ha.run pins s σ H _ I h) fun v s1 ⟨x, H1, I1, r1, q1⟩ => PyProof.Rows.args_nil ?_) na) na rfl
  obtain ⟨l, xs, rfl, hq, hnd, hl, q1⟩ := q1
  cases r1
  obtain ⟨its, r, pl, hz⟩ := I1.list hq
  refine set_listS (I1.ok.hd hc) pl.isList r (by unfold scanBound; omega) hnd fun h' tk hS hk => ?_
  refine PyProof.Rows.args_nil ?_
  obtain ⟨o, es, ep, t, ho, hex, hd, _, _, _, hf, hn⟩ := hS
  have I2 : Inv X pins σ H1 { s1 with heap := h', toks := tk } := I1.kept hk
  exact call_len_set ho hex hd hf (by rw [hn] <;> omega) ⟨.int (xs.length : Nat), H1, I2.tok _, ⟨_, by rw [hn]⟩, q1⟩
end
end BY
/-! B: != of own instances by their own == -/
namespace B
open PySem L2 PySem.Spec PyProof.Rows
section
variable {prog : Program} {w : World} {A : Around} {E : Value → Shared → Prop} {s : Shared} {K : Fg} {x y C L f : Addr} {h₀ : Heap} {m : Str → Option Value} {ox : Obj} {od : Option Obj}
theorem ne_body {Q : PySem.Fin → Shared → Prop} (X : K.In s.heap) (I : PySem.W.InstAt s.heap x ox C od) (hs : PySem.W.findIn K (.ref C) "__eq__" = some (some (.ref f))) (hf : PySem.W.isFn K (.ref f) = true) (hu : A.units < cLine)
    (h : wpAny (model prog w) A (call (.ref f) [.ref x, .ref y]) (fun v s' => ∃ b, v = .bool b ∧ Q (.done (.ret (.bool (!b)))) s') E s) : wpAny (model prog w) A (Builtin.«object.__ne__» ⟨[.ref x, .ref y], []⟩) Q E s := by
  unfold Builtin.«object.__ne__»
  repeat (first
    | with_reducible refine wpAny_cRoomFor hu ?_
    | (refine wpAny_bind (m := callSpecialIfBound? (.ref x) (Str.ofString "__eq__") [.ref y]) (PySem.W.ifBound_K X I hs hf (wpAny_mono h (fun v s' hv => ?_) fun _ _ e => e)))
    | wp_step)
  obtain ⟨b, rfl, q⟩ := hv
  repeat (first | exact q | exact wpAny_pure q | exact wpAny_truthy_bool q | (refine wpAny_bind (m := truthy (.bool _)) (wpAny_truthy_bool ?_)) | wp_step)
theorem ne_bound {M : Model} {args : List Value} {Q : Option Value → Shared → Prop} (X : K.In s.heap) (I : PySem.W.InstAt s.heap x ox C od) (hs : PySem.W.findIn K (.ref C) "__ne__" = some (some (.builtin "object.__ne__")))
    (h : wpAny M A (call (.builtin "object.__ne__") (.ref x :: args)) (fun v => Q (some v)) E s) : wpAny M A (callSpecialIfBound? (.ref x) "__ne__" args) Q E s := by
  simp only [callSpecialIfBound?, bindSpecialIfBound?]
  refine wpAny_holding (wpAny_bind (wpAny_bind (wpAny_bind (I.type.here ((PySem.W.looks_findIn X hs).here ?_)))))
  refine wpAny_bind (wpAny_askSetting (wpAny_ite ?_))
  have fin : wpAny M A (call (.builtin "object.__ne__") ([.ref x] ++ args) >>= fun v => pure (some v)) Q E s := wpAny_bind (wpAny_mono h (fun v s' h' => wpAny_pure h') fun _ _ h' => h')
  simp only [PySem.F.cmp_object.ne.bind]
  split
  · exact wpAny_bind (wpAny_pure (wpAny_pure fin))
  · exact wpAny_tryCatch (wpAny_bind (wpAny_pure (wpAny_pure fin)))
end
section
variable {X : Cx} {CX : CXT} {k : Nat} {f C : Addr} {fd : FuncData} {ps : List Str} {sp : Sp} {E : XK}
/-- x != y, two instances of the class at C, whose own __eq__ keeps the promise sp -/
def rInsNe (C : Addr) (sp : Sp) (E : XK) : R2 := fun x y H Q => ∃ a b dx dy fs gs, x = .ref a ∧ y = .ref b ∧ H a = some (.ins C dx fs) ∧ H b = some (.ins C dy gs) ∧ sp [x, y] H (fun v H' => ∃ r, v = .bl r ∧ Q (.bl (!r)) H') E
theorem op_insNe (F : FnOk X.prog X.w X.K X.mg X.base CX k f fd ps sp) (hr : Room (k + 1) X.A) (hm : Meth X.K C "__eq__" f) (hn : PySem.W.findIn X.K (.ref C) "__ne__" = some (some (.builtin "object.__ne__")))
    (ho : PySem.W.mroIn X.K C (.type "object") = some true) (hb : Binds X.K fd ps []) (hx : Passes CX X E) : OpR X (compareOp .NotEq) (rInsNe C sp E) := by
  intro pins s σ H x y v u Q I rx ry h
  obtain ⟨a, b, dx, dy, fs, gs, rfl, rfl, ha, hb', q⟩ := h
  cases (show v = Value.ref a from rx)
  cases (show u = Value.ref b from ry)
  obtain ⟨mA, J, _⟩ := ins_get I.hok ha
  obtain ⟨mB, J', _⟩ := ins_get I.hok hb'
  obtain ⟨od, J, _⟩ := J.look
  obtain ⟨od', J', _⟩ := J'.look
  obtain ⟨m, hF⟩ := I.fr
  have XK := I.kIn
  show wpAny (model X.prog X.w) X.A (richCompare .NotEq (.ref a) (.ref b)) (EP X pins σ Q) X.xe s
  have own : wpAny (model X.prog X.w) X.A.in1 (call (.ref f) [.ref a, .ref b]) (fun v s' => ∃ r, v = .bool r ∧ EP X pins σ Q (.bool (!r)) s') X.xe s := by
    have hl := F.len _ _ _ _ q
    have r2 : Vals [V.ref a, V.ref b] [Value.ref a, Value.ref b] := .cons rfl (.cons rfl .nil)
    refine wpAny_call (codeAny_mono (F.run X.A.in1 X.stack s H ⟨[.ref a, .ref b], []⟩ [.ref a, .ref b] [.ref a, .ref b] _ E hr.in1 I.env0.in1 (by
      have := hb s [.ref a, .ref b] I.kIn (by simpa using hl)
      simpa using this) r2 q) fun r s' hq => ?_)
    cases r with
    | error e => exact hx pins σ H s e s' I hq
    | ok fl =>
      cases fl with
      | ret w =>
        obtain ⟨z, H', I', rz, r, rfl, q'⟩ := I.after hq
        cases rz
        exact ⟨r, rfl, .bl (!r), H', I', rfl, q'⟩
      | next => exact False.elim hq
      | brk => exact False.elim hq
      | cont => exact False.elim hq
  have one : wpAny (model X.prog X.w) X.A (tryCompare (.ref a) "__ne__" (.ref b)) (fun r s' => ∃ v, r = some v ∧ EP X pins σ Q v s') X.xe s := by
    unfold tryCompare
    refine wpAny_bind (ne_bound XK J hn (wpAny_call (codeAny_call_builtin PySem.F.cmp_object.ne.plain PySem.F.cmpEntry_ne (@PySem.W.check_slot (model X.prog X.w) _ _ s "object.__ne__" "object" "__ne__" (.ref a) [.ref b] [] _ PySem.F.cmpKind_ne PySem.F.cmpSplit_ne
      (J.type.andThen (PySem.W.looks_mroIn XK ho)) (PySem.F.cmpArgs_ne _ _) ?_))))
    refine ne_body (s := s) XK J hm.at_ hm.fn hr.in1.units0 (wpAny_mono own (fun v s' z => ?_) fun _ _ e => e)
    obtain ⟨r, rfl, z⟩ := z
    refine ⟨r, rfl, ?_⟩
    exact wpAny_pure ⟨_, rfl, z⟩
  unfold richCompare
  simp only [oneThing_ref]
  refine wpAny_holding (wpAny_bind (wpAny_cRoomFor hr.units0 ?_))
  refine wpAny_bind (J.type.here (wpAny_bind (J'.type.here ?_)))
  split
  · rename_i q; simp at q
  · refine wpAny_bind (wpAny_pure ?_)
    simp only [Bool.false_eq_true, if_false]
    refine wpAny_bind (wpAny_mono one (fun r s' z => ?_) fun _ _ e => e)
    obtain ⟨v, rfl, hq⟩ := z
    exact wpAny_pure hq
end
end B
/-! B: min(d.values()), sorted(d.items()) -/
namespace B
open PySem L2 PySem.Spec PyProof.Rows
section
variable {X : Cx}
/-- min(d.values()) -/
def rMinV : List V → Hp → VK → Prop := fun vs H Q => ∃ (v a : Addr) (kvs : List (Key × V)) (is : List Int), vs = [V.ref v] ∧ H v = some (viewHO v a) ∧ H a = some (.dK kvs) ∧ kvs.map (·.2) = is.map V.int ∧ 0 < is.length ∧ ∀ m, m ∈ is → (∀ y ∈ is, m ≤ y) → Q (.int m) H
theorem cr_minV (hc : X.calm = true) : CallR X (.builtin "min") rMinV := by
  intro pins s σ H xs us Q I r h
  obtain ⟨v, a, kvs, is, rfl, hv, ha, hi, hne, q⟩ := h
  obtain rfl := Vals.ref1 r
  obtain ⟨vs, ep, e, dat, hl, _, hval⟩ := view_at I hv ha hi
  refine call_min_walkS ?_
  obtain ⟨oI, St, hit, W, st⟩ := (PySem.W.kdl_values (prog := X.prog) (w := X.w) (knd := mixKind X.prog X.w) (d := a) (r := v) (kvs := vs) (ep := ep)).iter X.A.in1 s (I.ok.hd hc) ⟨⟨_, e, rfl, rfl⟩, dat⟩
  have hv2 : ∀ (i : Nat) (u : Value), (∃ k, vs[i]? = some (k, u)) → ∃ t, u = Value.int (is.getD i 0) t := fun i u hu => by
    obtain ⟨x, t, h1, h2⟩ := hval i u hu
    exact ⟨t, by rw [h2]; show Value.int x t = Value.int (is.getD i 0) t; rw [List.getD_eq_getElem?_getD, h1]; rfl⟩
  refine hit _ _ ⟨s.heap.objs.size, _, _, _, vs.length, _, _, fun i j => decide (is.getD i 0 < is.getD j 0), rfl, W.toS, st, fun b hb => ?_, by rw [hl]; exact hne, CmpOf.ints_lt (fun i => is.getD i 0) hv2, fun u s' hu hm => ?_⟩
  · show b < (s.heap.push oI).objs.size
    rw [Heap.size_push]
    rcases List.mem_cons.mp hb with e' | hb
    · rw [e']; exact Nat.lt_succ_self _
    · rw [List.mem_singleton.mp hb]; exact Nat.lt_succ_of_lt (by obtain ⟨ob, es, ho, _⟩ := id dat; exact Heap.lt_size ho)
  · obtain ⟨t, rfl⟩ := hv2 _ u hu
    have hk : ∀ b o, s.heap.get? b = some o → s'.heap.get? b = some o := fun b o e =>
      hm.heap b o (fun hI => absurd (Heap.lt_size e) (by rw [List.mem_singleton.mp hI]; exact Nat.lt_irrefl _)) (Heap.get?_push_of_some _ e)
    have hb := argBest_lt (fun i => is.getD i 0) (vs.length - 1)
    have hlt : argBest (fun i j => decide (is.getD i 0 < is.getD j 0)) (vs.length - 1) < is.length := by
      have := hb.1
      omega
    rw [Moved.eq_with hm]
    refine ⟨.int _, H, I.kept hk, ⟨t, rfl⟩, q _ ?_ fun y hy => ?_⟩
    · rw [List.getD_eq_getElem?_getD, List.getElem?_eq_getElem hlt, Option.getD_some]; exact List.getElem_mem hlt
    · obtain ⟨i, hi', rfl⟩ := List.getElem_of_mem hy
      have := hb.2 i (by omega)
      simpa [List.getD_eq_getElem?_getD, List.getElem?_eq_getElem hi'] using this
end
/-! ### sorted(d.items()), values ints, keys all texts or all ints -/
def kdat : Key → PyData := Sum.elim PyData.int PyData.str
def kle : Key → Key → Bool
  | .inl i, .inl j => decide (i ≤ j)
  | .inr s, .inr t => decide (s.cps.toList ≤ t.cps.toList)
  | _, _ => false
def ienc (q : Key × Int) : PyData := .tuple [kdat q.1, .int q.2]
def OneKind (ks : List (Key × Int)) : Prop := (∀ q ∈ ks, ∃ x : Str, q.1 = .inr x) ∨ ∀ q ∈ ks, ∃ i : Int, q.1 = .inl i
theorem ienc_le {a b : Key × Int} (h : (∃ x y : Str, a.1 = .inr x ∧ b.1 = .inr y) ∨ ∃ x y : Int, a.1 = .inl x ∧ b.1 = .inl y) (hl : PySem.W.dataLe false ienc a b = true) : kle a.1 b.1 = true := by
  rw [PySem.W.dataLe_eq] at hl
  obtain ⟨a1, a2⟩ := a
  obtain ⟨b1, b2⟩ := b
  rcases h with ⟨x, y, rfl, rfl⟩ | ⟨x, y, rfl, rfl⟩
  · have hl' : (!PySem.W.dataLt (.tuple [.str y, .int b2]) (.tuple [.str x, .int a2])) = true := hl
    rw [PySem.W.dataLt_pair (by simp [PySem.W.alike]) (by simp [PySem.W.alike]), PySem.W.dataLt_str] at hl'
    show decide (x.cps.toList ≤ y.cps.toList) = true
    rw [← PySem.W.not_lt_str]
    by_cases e : y = x
    · subst e; simp
    · have : PyData.eqv (.str y) (.str x) = false := by simp [PyData.eqv, e]
      rw [this] at hl'
      simpa using hl'
  · have hl' : (!PySem.W.dataLt (.tuple [.int y, .int b2]) (.tuple [.int x, .int a2])) = true := hl
    rw [PySem.W.dataLt_pair (by simp [PySem.W.alike]) (by simp [PySem.W.alike])] at hl'
    show decide (x ≤ y) = true
    rw [← PySem.W.not_lt_int]
    by_cases e : y = x
    · subst e; simp
    · have : PyData.eqv (.int y) (.int x) = false := by simp [PyData.eqv, e]
      rw [this, if_neg Bool.false_ne_true, PySem.W.dataLt_int] at hl'
      exact hl'
theorem OneKind.two {ks : List (Key × Int)} (h : OneKind ks) {a b : Key × Int} (ha : a ∈ ks) (hb : b ∈ ks) : (∃ x y : Str, a.1 = .inr x ∧ b.1 = .inr y) ∨ ∃ x y : Int, a.1 = .inl x ∧ b.1 = .inl y := by
  rcases h with h | h
  · obtain ⟨x, e⟩ := h a ha
    obtain ⟨y, e'⟩ := h b hb
    exact .inl ⟨x, y, e, e'⟩
  · obtain ⟨x, e⟩ := h a ha
    obtain ⟨y, e'⟩ := h b hb
    exact .inr ⟨x, y, e, e'⟩
theorem OneKind.alike {ks : List (Key × Int)} (h : OneKind ks) : PySem.W.AllAlike (ks.map ienc) := by
  intro d hd d' hd'
  obtain ⟨a, ha, rfl⟩ := List.mem_map.mp hd
  obtain ⟨b, hb, rfl⟩ := List.mem_map.mp hd'
  obtain ⟨a1, a2⟩ := a
  obtain ⟨b1, b2⟩ := b
  rcases h.two ha hb with ⟨x, y, e, e'⟩ | ⟨x, y, e, e'⟩
  · cases e; cases e'; simp [ienc, kdat, PySem.W.alike, PySem.W.alikeAll]
  · cases e; cases e'; simp [ienc, kdat, PySem.W.alike, PySem.W.alikeAll]
theorem isorted {ks : List (Key × Int)} (h : OneKind ks) : (ks.mergeSort (PySem.W.dataLe false ienc)).Pairwise fun a b => kle a.1 b.1 = true := by
  have := PySem.W.sort_pairwise (PySem.W.sortLe_total (PyProof.Rows.listOrd PyProof.Rows.itemOrd) false fun b => PySem.W.keyToks (ienc b)) ks
  refine List.Pairwise.imp_of_mem (fun {a b} ha hb hl => ienc_le (h.two (List.mem_mergeSort.mp ha) (List.mem_mergeSort.mp hb)) hl) this
end B
/-! B: sorted(d.items()) -/
namespace B
open PySem L2 PySem.Spec PyProof.Rows
/-- sorted(d.items()): tuples in the order of the keys -/
def rSortItems : V → Hp → VK → Prop := fun x H Q => ∃ (d : Addr) (ks : List (Key × Int)), x = .ref d ∧ H d = some (.dK (ks.map fun q => (q.1, V.int q.2))) ∧ OneKind ks ∧ ks.length ≤ 4000 ∧
  ∀ (ys : List (Key × Int)) (H' : Hp) (p : Addr) (ts : List Addr), ys.Perm ks → ys.Pairwise (fun a b => kle a.1 b.1 = true) → (∀ b o, H b = some o → H' b = some o) → H p = none → (∀ t ∈ ts, H t = none) → p ∉ ts → H' p = some (.lst (ts.map V.ref)) →
    Paired (fun (t : Addr) (q : Key × Int) => H' t = some (.tup [kV q.1, .int q.2])) ts ys → Q (.ref p) H'
def tSortItems (te : TE) : TE := fun σ H Q => te σ H fun x H1 => rSortItems x H1 Q
section
variable {prog : Program} {w : World} {A : Around} {E : Value → Shared → Prop} {s : Shared}
theorem each_refs {Rr : Value → Key × Int → Prop} : ∀ {out : List Value} {ys : List (Key × Int)}, PySem.W.EachIs Rr out ys → (∀ v q, Rr v q → ∃ t, v = .ref t) → ∃ ts : List Addr, out = ts.map Value.ref ∧ Paired (fun t q => Rr (.ref t) q) ts ys
  | _, _, .nil, _ => ⟨[], rfl, .nil⟩
  | _, _, .cons h r, hr => by
    obtain ⟨t, rfl⟩ := hr _ _ h
    obtain ⟨ts, rfl, q⟩ := each_refs r hr
    exact ⟨t :: ts, rfl, .cons h q⟩
theorem each_ix {α β : Type} {Rr : α → β → Prop} : ∀ {as : List α} {bs : List β}, as.length = bs.length → (∀ (j : Nat) (a : α) (b : β), as[j]? = some a → bs[j]? = some b → Rr a b) → PySem.W.EachIs Rr as bs
  | [], [], _, _ => .nil
  | [], _ :: _, h, _ => by simp at h
  | _ :: _, [], h, _ => by simp at h
  | a :: as, b :: bs, h, q => .cons (q 0 a b rfl rfl) (each_ix (by simpa using h) fun j x y h1 h2 => q (j + 1) x y (by simpa using h1) (by simpa using h2))
theorem paired_imp {α β : Type} {R S : α → β → Prop} : ∀ {as : List α} {bs : List β}, Paired R as bs → (∀ a b, a ∈ as → R a b → S a b) → Paired S as bs
  | _, _, .nil, _ => .nil
  | _, _, .cons h r, q => .cons (q _ _ List.mem_cons_self h) (paired_imp r fun a b ha => q a b (List.mem_cons_of_mem _ ha))
/-- what the k-th pair is, on the heap -/
def PairAt (h : Heap) (t : Addr) (q : Key × Int) : Prop := ∃ key tk', h.get? t = some { cls := .type "tuple", data := .seq #[key, .int q.2 tk'] } ∧ RelV (kV q.1) key
theorem PairAt.reads {h h2 : Heap} {t : Addr} {q : Key × Int} (p : PairAt h t q) (k : ∀ b o, h.get? b = some o → h2.get? b = some o) : Reads h2 (.ref t) (ienc q) [] := by
  obtain ⟨key, tk', f3, rk⟩ := p
  obtain ⟨q1, q2⟩ := q
  have rkey : Reads h2 key (kdat q1) [] := by
    cases q1 with
    | inl i => obtain ⟨t, rfl⟩ := (show ∃ t, key = Value.int i t from rk); exact .int i t
    | inr x => obtain ⟨t, rfl⟩ := (show ∃ t, key = Value.str x t from rk); exact .str x t
  exact .tuple (vs := #[key, .int q2 tk']) (k _ _ f3) rfl rfl (.cons (as := []) (bs := []) rkey (.cons (as := []) (bs := []) (.int q2 tk') .nil))
theorem ienc_depth (q : Key × Int) : (ienc q).depth ≤ 1 := by
  obtain ⟨q1, q2⟩ := q
  cases q1 <;> simp [ienc, kdat, PyData.depth, PyData.depthAll]
def IxP (as : List Addr) (ks : List (Key × Int)) (v : Value) (q : Key × Int) : Prop := ∃ (j : Nat) (t : Addr), v = .ref t ∧ as[j]? = some t ∧ ks[j]? = some q
/-- the list of pairs, sorted -/
theorem sort_pairs {a : Addr} {n : Nat} {as : List Addr} {ks : List (Key × Int)} {Q : Value → Shared → Prop} (ho : s.heap.get? a = some (seqObj "list" (as.map Value.ref).toArray n)) (hl : as.length = ks.length) (pr : ∀ (j : Nat) (t : Addr) (q : Key × Int), as[j]? = some t → ks[j]? = some q → PairAt s.heap t q)
    (hok : OneKind ks) (h4 : ks.length ≤ 4000) (hu : A.units + 4 < cLine)
    (h : ∀ (ts : List Addr) (ys : List (Key × Int)), ys.Perm ks → ys.Pairwise (fun a b => kle a.1 b.1 = true) → Paired (fun t q => IxP as ks (.ref t) q) ts ys → Q .none { s with heap := sortedHeap s.heap a (as.map Value.ref) (ts.map Value.ref).toArray }) :
    wpAny (model prog w) A (call (.builtin "list.sort") [.ref a]) Q E s := by
  have eR : PySem.W.EachIs (IxP as ks) (as.map Value.ref) ks := each_ix (by simpa using hl) fun j a b h1 h2 => by
    rw [List.getElem?_map] at h1
    obtain ⟨t, h3, rfl⟩ := Option.map_eq_some_iff.mp h1
    exact ⟨j, t, rfl, h3, h2⟩
  refine PySem.W.list_sort_data (enc := ienc) (R := IxP as ks) ho eR (eR.mono fun v q ⟨j, t, e, h1, h2⟩ => ⟨[], by rw [e]; exact (pr j t q h1 h2).reads fun _ _ z => z, by simp⟩) hok.alike (.inl fun d hd => ?_) (by rw [sizeLine_eq]; omega) (fun b _ => ?_) fun out ho hO => ?_
  · obtain ⟨b, _, rfl⟩ := List.mem_map.mp hd
    exact ⟨_, _, rfl⟩
  · have := ienc_depth b
    omega
  · obtain ⟨ts, rfl, q⟩ := each_refs hO fun v q ⟨_, t, e, _⟩ => ⟨t, e⟩
    exact h ts _ (List.mergeSort_perm _ _) (isorted hok) q
/-- sorted(the items' view) -/
theorem sorted_view {r d : Addr} {ep : Nat} {vs : List (Key × Value)} {ks : List (Key × Int)} {Q : Value → Shared → Prop} (hh : A.handled = none) (hv : s.heap.IsItemsView r d) (hm : s.heap.DictAt (mixKind prog w) d vs ep) (kv : KV (ks.map fun q => (q.1, V.int q.2)) vs)
    (hok : OneKind ks) (h4 : ks.length ≤ 4000) (hu : A.units + 8 < cLine)
    (hQ : ∀ (h' : Heap) (tk : Nat) (p : Addr) (as ts : List Addr) (ys : List (Key × Int)), (∀ b o, s.heap.get? b = some o → h'.get? b = some o) → r < p → (∃ n, h'.get? p = some (seqObj "list" (ts.map Value.ref).toArray n)) → as.Pairwise (· < ·) → (∀ t ∈ as, s.heap.objs.size < t ∧ t < p) → as.length = ks.length →
      (∀ (j : Nat) (t : Addr) (q : Key × Int), as[j]? = some t → ks[j]? = some q → PairAt h' t q) → ys.Perm ks → ys.Pairwise (fun a b => kle a.1 b.1 = true) → Paired (fun t q => IxP as ks (.ref t) q) ts ys → Q (.ref p) { s with heap := h', toks := tk }) :
    wpAny (model prog w) A (call (.builtin "sorted") [.ref r]) Q E s := by
  have lk' : ks.length = vs.length := by simpa using KV.length kv
  have hzl : vs.length ≤ sizeLine := by rw [← lk', sizeLine_eq]; omega
  refine Calls.call_function_entry kind_sorted plain_sorted entry_sorted (args_sorted1 _) ?_
  unfold Builtin.«sorted»
  refine wpAny_bind (m := checkCount "sorted" 1 1 _) (wpAny_pure ?_)
  refine wpAny_bind (PySem.W.kdx_collect (A := A.in1) (knd := mixKind prog w) (kvs := vs) (ep := ep) hh hv hm hzl fun h' tk as hk hl hG => ?_)
  have hal : (as.map Value.ref).length ≤ sizeLine := by rw [List.length_map, hl]; exact hzl
  have lak : as.length = ks.length := by omega
  have pr : ∀ (j : Nat) (t : Addr) (q : Key × Int), as[j]? = some t → ks[j]? = some q → PairAt h' t q := by
    intro j t q h1 h2
    obtain ⟨key, k, x, f1, f2, f3⟩ := hG.pairs j t h1
    have e2 : (ks.map fun q => (q.1, V.int q.2))[j]? = some (q.1, V.int q.2) := by rw [List.getElem?_map, h2]; rfl
    obtain ⟨qv, g1, g2, g3⟩ := LiI.paired_get kv e2
    rw [f1] at g1
    cases g1
    obtain ⟨t', rfl⟩ := (show ∃ t, x = Value.int q.2 t from g3)
    refine ⟨key, t', f3, ?_⟩
    rw [show q.1 = k from g2]
    exact relV_key (show keyIs k key = true from f2)
  refine wpAny_bind (wpAny_newList ?_ hal)
  have hoL : (h'.push (seqObj "list" (as.map Value.ref).toArray 0)).get? h'.objs.size = some (seqObj "list" (as.map Value.ref).toArray 0) := Heap.get?_push_size _ rfl
  refine wpAny_bind (wpAny_holding ?_)
  refine sort_pairs (A := A.in1) (s := ⟨h'.push (seqObj "list" (as.map Value.ref).toArray 0), s.gens, s.drawn, tk, s.os⟩) hoL lak (fun j t q h1 h2 => ?_) hok h4 (by show A.units + 1 + 4 < _; omega) fun ts ys y1 y2 y3 => ?_
  · obtain ⟨key, t', e1, e2⟩ := pr j t q h1 h2
    exact ⟨key, t', Heap.get?_push_of_some _ e1, e2⟩
  refine wpAny_pure ?_
  obtain ⟨c, hc⟩ := sortedHeap_at (vs := as.map Value.ref) (out := (ts.map Value.ref).toArray) hoL
  have keep : ∀ b o, h'.get? b = some o → (sortedHeap (h'.push (seqObj "list" (as.map Value.ref).toArray 0)) h'.objs.size (as.map Value.ref) (ts.map Value.ref).toArray).get? b = some o := fun b u e => by
    have hlt := Heap.lt_size e
    rw [sortedHeap_old (Nat.ne_of_lt hlt) (by rw [size_push']; exact Nat.lt_succ_of_lt hlt)]
    exact Heap.get?_push_of_some _ e
  refine ⟨_, rfl, hQ _ tk h'.objs.size as ts ys (fun b o e => keep b o (hk b o e)) ?_ ⟨c, hc⟩ hG.rise (fun t ht => ⟨hG.above t ht, hG.there ht⟩) lak (fun j t q h1 h2 => ?_) y1 y2 y3⟩
  · obtain ⟨o, ho, _⟩ := hv
    exact Heap.lt_size (hk _ _ ho)
  · obtain ⟨key, t', e1, e2⟩ := pr j t q h1 h2
    exact ⟨key, t', keep _ _ e1, e2⟩
end
section
variable {X : Cx} {e : Expr} {te : TE} {p apos cpos pos : Pos}
theorem ix_perm {as : List Addr} {ks ys : List (Key × Int)} {ts : List Addr} (h : Paired (fun t q => IxP as ks (.ref t) q) ts ys) : ∀ t ∈ ts, t ∈ as := fun t ht => by
  obtain ⟨j, q, e1, e2, j', t', e3, e4, e5⟩ := LiI.paired_ix h ht
  cases e3
  exact List.mem_of_getElem? e4
theorem pe_sortItems (hc : X.calm = true) (he : PE X e te) (hg : Gl X "sorted") (hm : X.mg "sorted" = none) (hu : X.A.units + 64 < cLine) (hbase : attributeBase e "items" X.env (eval e X.env) = eval e X.env := by rfl) (hline : (apos.endLine == cpos.line) = true := by rfl)
    (hs : starEach [.Call (.Attribute e "items" apos) [] [] cpos] X.env = (false, eval (.Call (.Attribute e "items" apos) [] [] cpos) X.env) :: starEach [] X.env := by rfl) :
    PE X (.Call (.Name "sorted" p) [.Call (.Attribute e "items" apos) [] [] cpos] [] pos) (tSortItems te) := by
  refine ⟨fun pins s σ H Q I hq => ?_⟩
  refine Call_ (ld_blt I hg hm (show bootBuiltins "sorted" = some (.builtin "sorted") by decide +kernel) ?_)
  refine PyProof.Rows.callWith_builtin1 (PyProof.Rows.args_cons ?_ hs) rfl rfl
  refine wpAny_Call_method (T := "dict") (id := "dict.items") hbase rfl hline F.plainAttrs_dict F.slot_dict_items F.type_dict_items (thn (he.run pins s σ H _ I hq) fun u s1 ⟨x, H1, I1, rx, d, ks, ex, hd, hok, h4, q⟩ => ?_)
  subst ex
  obtain rfl : u = Value.ref d := rx
  obtain ⟨hz, hs0, vs, kv, hdo⟩ := I1.hok d _ hd
  obtain ⟨ep, hat⟩ := hdo.dictAt
  refine ⟨hdo.typeIs, hdo.mapOf.noDict, ?_⟩
  show wpAny _ _ (callWith cpos (.builtin "dict.items") [.ref d] [] []) _ X.xe s1
  refine method_meetsIn F.slot_dict_items F.entry_dict_items rfl (PySem.evalArgs_none ⟨rfl, hdo.typeIs, F.args_dict_items_1 _, _, meets_dict_items (mixKind X.prog X.w) d hs0, ⟨vs, hdo⟩, ?_⟩)
  refine PyProof.Rows.args_nil ?_
  have hvw : (s1.heap.push { cls := .type "dict_items", data := .fields #[.ref d] }).IsItemsView s1.heap.objs.size d := ⟨_, Heap.get?_push_size _ rfl, rfl, rfl⟩
  refine sorted_view (s := { s1 with heap := s1.heap.push { cls := .type "dict_items", data := .fields #[.ref d] } }) (I1.ok.hd hc) hvw (hat.push _) kv hok h4 (by omega) fun h' tk p as ts ys hk hp hl rise ab la pr y1 y2 y3 => ?_
  have keep : ∀ b o, s1.heap.get? b = some o → h'.get? b = some o := fun b o e => hk b o (Heap.get?_push_of_some _ e)
  have hp' : s1.heap.objs.size < p := hp
  have zle : s1.heap.objs.size ≤ (s1.heap.push { cls := .type "dict_items", data := .fields #[.ref d] }).objs.size := by rw [Heap.size_push]; exact Nat.le_succ _
  have hn0 : H1 p = none := I1.hok.fresh (Nat.le_of_lt hp')
  have I2 : Inv X pins σ H1 { s1 with heap := h', toks := tk } := I1.kept (t' := tk) keep
  obtain ⟨n, hl⟩ := hl
  have lt : ts.length = ks.length := by
    have := Paired.length y3
    rw [this, y1.length_eq]
  have I3 : Inv X pins σ (upd H1 p (.lst (ts.map V.ref))) { s1 with heap := h', toks := tk } :=
    I2.take (h' := h') (t' := tk) (fun b ob _ e => e) (I1.fpOk (Nat.le_of_lt hp') hn0) ⟨by rw [List.length_map, sizeLine_eq]; omega, ts.map Value.ref, n, LiI.vals_refs ts, hl⟩
  have nd : as.Nodup := List.Pairwise.imp (fun h => Nat.ne_of_lt h) rise
  have low : ∀ t ∈ as, s1.heap.objs.size ≤ t ∧ t < p := fun t ht => ⟨Nat.le_of_lt (Nat.lt_of_le_of_lt zle (ab t ht).1), (ab t ht).2⟩
  obtain ⟨H2, I4, g, qt⟩ := DX.takeT (P := fun b vs => ∃ (j : Nat) (q : Key × Int), as[j]? = some b ∧ ks[j]? = some q ∧ vs = [kV q.1, .int q.2]) I1 as _ I3 nd fun b hb => by
    obtain ⟨j, hj⟩ := List.mem_iff_getElem?.mp hb
    obtain ⟨hb1, hb2⟩ := low b hb
    have hj2 : j < ks.length := by have := (List.getElem?_eq_some_iff.mp hj).1; omega
    obtain ⟨key, tk', e1, e2⟩ := pr j b ks[j] hj (by simp [hj2])
    refine ⟨hb1, by rw [upd_ne (Nat.ne_of_lt hb2)]; exact I1.hok.fresh hb1, _, ⟨j, ks[j], hj, by simp [hj2], rfl⟩, fun H3 => ⟨by rw [sizeLine_eq]; show 2 ≤ 16777216; omega, [key, .int (ks[j]).2 tk'], .cons e2 (.cons ⟨tk', rfl⟩ .nil), ⟨_, e1, rfl, 0, rfl⟩⟩⟩
  have gr : ∀ b o, H1 b = some o → H2 b = some o := fun b o e => g b o (by rw [upd_ne (ne_of_none e hn0)]; exact e)
  have ht := ix_perm y3
  refine ⟨.ref p, H2, I4, rfl, q ys H2 p ts y1 y2 gr hn0 (fun t z => I1.hok.fresh (low t (ht t z)).1) (fun z => Nat.lt_irrefl _ (low p (ht p z)).2) (g _ _ upd_same) (paired_imp y3 fun t q hm ⟨i, t', e, i1, i2⟩ => ?_)⟩
  cases e
  obtain ⟨vs, ⟨j, q', j1, j2, ev⟩, hH⟩ := qt t (List.mem_of_getElem? i1)
  have eij : i = j := (List.getElem?_inj (List.getElem?_eq_some_iff.mp i1).1 nd).mp (i1.trans j1.symm)
  subst eij
  have ee : q' = q := Option.some.inj (j2.symm.trans i2)
  rw [ev, ee] at hH
  exact hH
end
end B
/-! B: methods and classes called with keywords, keyword-only defaults -/
namespace B
open PySem L2 PySem.Spec PyProof.Rows
/-- how a def without defaults binds n values and the keywords ks -/
theorem kbn_mk {K : Fg} {x qual : Str} {st : Stmt} {f : Addr} {fd : FuncData} {ps : List Str} {n : Nat} {ks : List Str} {l : List Nat} (F : Fun K x qual st f fd)
    (h : ∀ (kV doc pm : Value) (an : Option Addr) (cdv ct : Value) (us ws : List Value), us.length = n → ws.length = ks.length → bindArgs (PySem.W.fnOf x qual (defArgs st) (defBody st) (defScope st) .none kV doc pm an cdv ct) ⟨us, ks.zip ws⟩ = pure (ps.zip (us ++ perm l ws))) :
    ∃ g, KBn K fd ps n ks g (fun vs zs => vs ++ perm l zs) := by
  obtain ⟨oc, od, kV, doc, pm, an, cdv, ct, osl, rfl, lk, hcd⟩ := F.ex
  exact ⟨fun us ws => us ++ perm l ws, ⟨fun s us ws _ h1 h2 => .of_eq (h kV doc pm an cdv ct us ws h1 h2), fun r1 r2 => r1.append (perm_rel l r2)⟩⟩
theorem fund_mk {K : Fg} {x qual : Str} {st : Stmt} {f D : Addr} {oc : Value} {od an : Option Addr} {osl : Array (Option Value)} {doc pm cdv ct : Value} {kws : List (Str × V)} (l : K.lookup f = some ⟨oc, od, .func (PySem.W.fnOf x qual (defArgs st) (defBody st) (defScope st) .none (.ref D) doc pm an cdv ct), osl⟩)
    (c : PySem.W.codeIn K cdv qual = true) (k : PySem.W.keepIn K (.ref f) = true) (hk : ∀ q ∈ kws, ∃ u, PySem.W.nsIn K D q.1 = some (some u) ∧ RelV q.2 u) :
    FunD K x qual (defArgs st) (defBody st) (defScope st) [] kws f (PySem.W.fnOf x qual (defArgs st) (defBody st) (defScope st) .none (.ref D) doc pm an cdv ct) :=
  ⟨⟨oc, od, .none, .ref D, doc, pm, an, cdv, ct, osl, rfl, l, c, .inl ⟨rfl, rfl⟩, .inr ⟨D, rfl, hk⟩⟩, k⟩
/-- .. and one with keyword-only defaults, those of ms lacking -/
theorem kbd_mk {K : Fg} {x qual : Str} {params : Arguments} {body : List Stmt} {scope : Scope} {f : Addr} {fd : FuncData} {ps : List Str} {n : Nat} {ks : List Str} {kws ms : List (Str × V)} {l : List Nat} (F : FunD K x qual params body scope [] kws f fd) (hk : kws ≠ []) (hms : ∀ q ∈ ms, q ∈ kws)
    (h : ∀ (D : Addr) (doc pm : Value) (an : Option Addr) (cdv ct : Value) (us mv ws : List Value), us.length = n → mv.length = ms.length → ws.length = ks.length →
      KwChain D ((ms.map (·.1)).zip mv) (bindArgs (PySem.W.fnOf x qual params body scope .none (.ref D) doc pm an cdv ct) ⟨us, ks.zip ws⟩) (ps.zip (us ++ perm l (ws ++ mv)))) :
    ∃ g, KBn K fd ps n ks g (fun vs zs => vs ++ perm l (zs ++ ms.map (·.2))) := by
  obtain ⟨mv, q⟩ := F.kbinds0 n ks ms (fun us mv ws => us ++ perm l (ws ++ mv)) hk hms (fun r1 r2 r3 => r1.append (perm_rel l (r3.append r2))) h
  exact ⟨_, q⟩
/-- o.m(e, .., k = v, ..) -/
def tMethN (C : Addr) (m : Str) (n j : Nat) (sp : Sp) (gV : List V → List V → List V) (E : XK) (to : TE) (t tk : TA) : TE := fun σ H Q => to σ H fun x H1 => ∃ a dx fs, x = .ref a ∧ H1 a = some (.ins C dx fs) ∧ fs.lookup m = none ∧
  t σ H1 fun vs H2 => tk σ H2 fun zs H3 => vs.length = n ∧ zs.length = j ∧ sp (gV (x :: vs) zs) H3 Q E
section
variable {X : Cx} {CX : CXT} {k n j : Nat} {f C : Addr} {fd : FuncData} {ps ks : List Str} {sp : Sp} {E : XK} {o e : Expr} {es : List Expr} {to : TE} {t tk : TA} {kws : List Keyword} {m : Str} {apos pos : Pos} {gV : List V → List V → List V}
theorem pe_methN0 {pl : Sem Bool} (he : PE X o to) (c : Cls X.K C) (hm : Meth X.K C m f) (F : FnOk X.prog X.w X.K X.mg X.base CX k f fd ps sp) (hr : Room k X.A) (hb : ∃ g, KBn X.K fd ps 1 ks g gV) (hx : Passes CX X E)
    (hkw : PK X kws tk) (hall : (backToKw pos (keywordEach kws X.env)).all (·.1.isSome) = true := by rfl) (hks : (backToKw pos (keywordEach kws X.env)).filterMap (·.1) = ks := by rfl)
    (hn : j = ks.length := by rfl) (hpl : ((backTo pos (starEach [] X.env)).any (·.1) || (backToKw pos (keywordEach kws X.env)).any (·.1.isNone)) = false := by rfl)
    (ht : eval (.Call (.Attribute o m apos) [] kws pos) X.env = (eval o X.env >>= fun ov => standAt apos.atName >>= fun _ => holding [ov] (getMethod ov m pl) >>= fun fx => callWith pos fx.1 fx.2 (backTo pos (starEach [] X.env)) (backToKw pos (keywordEach kws X.env))) := by rfl) :
    PE X (.Call (.Attribute o m apos) [] kws pos) (tMethN C m 0 j sp gV E to tNil tk) := by
  subst hn
  obtain ⟨g, hb⟩ := hb
  refine ⟨fun pins s σ H Q I h => PySem.W.methodCall_KW (pl := pl) (thn (he.run pins s σ H _ I h) fun u s1 ⟨x, H1, I1, rx, a, dx, fs, ex, ea, lk, q⟩ => ?_) ht⟩
  subst ex
  obtain rfl : u = Value.ref a := rx
  refine getmeth_ok I1 ea c hm lk (PySem.W.callWith_KW0 (first := [.ref a]) (h₀ := X.base) I.ok.mod.kin hm.kp hall (thn (hkw.run pos pins s1 σ H1 _ I1 q) fun ws s2 ⟨zs, H2, I2, rz, _, hl, q2⟩ => ⟨I2.kIn, ?_⟩) hpl)
  rw [hks]
  exact run_fnN (vs := [.ref a]) F hr hb hx I2 (.cons rfl .nil) rz rfl hl q2
theorem pe_methN {pl : Sem Bool} (he : PE X o to) (c : Cls X.K C) (hm : Meth X.K C m f) (F : FnOk X.prog X.w X.K X.mg X.base CX k f fd ps sp) (hr : Room k X.A) (hb : ∃ g, KBn X.K fd ps (n + 1) ks g gV) (hx : Passes CX X E) (ha : PA X (e :: es) t)
    (hkw : PK X kws tk) (hall : (backToKw pos (keywordEach kws X.env)).all (·.1.isSome) = true := by rfl) (hks : (backToKw pos (keywordEach kws X.env)).filterMap (·.1) = ks := by rfl)
    (hn : j = ks.length := by rfl) (hpl : ((backTo pos (starEach (e :: es) X.env)).any (·.1) || (backToKw pos (keywordEach kws X.env)).any (·.1.isNone)) = false := by rfl) (hs : starEach (e :: es) X.env = (false, eval e X.env) :: starEach es X.env := by rfl)
    (ht : eval (.Call (.Attribute o m apos) (e :: es) kws pos) X.env = (eval o X.env >>= fun ov => standAt apos.atName >>= fun _ => holding [ov] (getMethod ov m pl) >>= fun fx => callWith pos fx.1 fx.2 (backTo pos (starEach (e :: es) X.env)) (backToKw pos (keywordEach kws X.env))) := by rfl) :
    PE X (.Call (.Attribute o m apos) (e :: es) kws pos) (tMethN C m n j sp gV E to t tk) := by
  subst hn
  obtain ⟨g, hb⟩ := hb
  refine ⟨fun pins s σ H Q I h => PySem.W.methodCall_KW (pl := pl) (thn (he.run pins s σ H _ I h) fun u s1 ⟨x, H1, I1, rx, a, dx, fs, ex, ea, lk, q⟩ => ?_) ht⟩
  subst ex
  obtain rfl : u = Value.ref a := rx
  refine getmeth_ok I1 ea c hm lk (PySem.W.callWith_KW (first := [.ref a]) (h₀ := X.base) I.ok.mod.kin hm.kp hall (thn (ha.run pos pins s1 σ H1 _ I1 q) fun us s2 ⟨vs, H2, I2, r, q2⟩ => thn (hkw.run pos pins s2 σ H2 _ I2 q2) fun ws s3 ⟨zs, H3, I3, rz, l1, l2, q3⟩ => ⟨I3.kIn, ?_⟩) hpl hs)
  rw [hks]
  exact run_fnN (vs := .ref a :: vs) F hr hb hx I3 (.cons rfl r) rz (by rw [List.length_cons, l1]) l2 q3
theorem pe_makeKE {x : Str} {p : Pos} (M : Mk X.K C f) (F : FnOk X.prog X.w X.K X.mg X.base CX k f fd ps sp) (hr : Room (k + 1) X.A) (hg : Gl X x) (hm : X.mg x = some (.ref C)) (hb : ∃ g, KBn X.K fd ps 1 ks g gV) (hx : Passes CX X E) (hkw : PK X kws tk)
    (hall : (backToKw pos (keywordEach kws X.env)).all (·.1.isSome) = true := by rfl) (hks : (backToKw pos (keywordEach kws X.env)).filterMap (·.1) = ks := by rfl) (hdb : (x == ("__debug__" : Str)) = false := by decide) (hn : j = ks.length := by rfl)
    (hpl : ((backTo pos (starEach [] X.env)).any (·.1) || (backToKw pos (keywordEach kws X.env)).any (·.1.isNone)) = false := by rfl) : PE X (.Call (.Name x p) [] kws pos) (tMakeK C 0 j sp gV E tNil tk) := by
  subst hn
  obtain ⟨g, hb⟩ := hb
  exact pe_makeK0 M F hr hg hm hb hx hkw hall hks hdb hpl
end
end B
/-! B: promises kept where no repr is under way (the guards are known to be none), from the top on; repr of a list -/
namespace B
open PySem PySem.Spec PyProof.Rows L2
/-- the promise sp is kept by the def at f wherever no guard stands -/
structure FnG (P : Program) (w : World) (K : Fg) (mg : Str → Option Value) (base : Heap) (k : Nat) (f : Addr) (fd : FuncData) (ps : List Str) (sp : Sp) : Prop where
  ln : ∀ vs H Q E, sp vs H Q E → vs.length = ps.length
  go : ∀ {A : Around} {outer : List Env} {s : Shared} {H : Hp} {args : Args} {us : List Value} {vs : List V} {Q : VK} {E : XK}, A.guards = some [] → Room k A → Env0 P w K mg base A outer s H → BindsTo s fd args (ps.zip us) → Vals vs us → sp vs H Q E →
    codeAny (model P w) A (.call (.ref f) args) (CR CX0 outer P w H s Q E) s
section
variable {P : Program} {w : World} {K : Fg} {mg : Str → Option Value} {base : Heap}
/-- how a body's end is a call's end -/
theorem end_of {X : Cx} {Q : VK} {E : XK} {outer : List Env} {H : Hp} {s s' : Shared} {N : List Str} {qual : Str} {sc : Scope} {f : Addr} {cd : Value} {A : Around} {σ : L2.St} {H' : Hp} {v : V} {u : Value}
    (J : Inv (cxOf CX0 P w K mg base N qual sc f cd A outer s H E) [] σ H' s') (r : RelV v u) (q : Q v H') : CE outer P w H s Q u s' := ⟨v, H', J.os, J.bare, J.base, J.hok, r, q⟩
theorem okG {x qual : Str} {st : Stmt} {f : Addr} {fd : FuncData} {N ps : List Str} {k : Nat} {sp : Sp} (F : Fun K x qual st f fd) (S : FnScope N ps (defScope st)) (ln : ∀ vs H Q E, sp vs H Q E → vs.length = ps.length)
    (body : ∀ (cd : Value) (A : Around), A.guards = some [] → ∀ (outer : List Env) (s : Shared) (H : Hp) (vs : List V) (Q : VK) (E : XK), Room k (A.deeper (envOfC qual (defScope st) s.heap.objs.size f cd)) → sp vs H Q E →
      ∃ t, PSs (cxOf CX0 P w K mg base N qual (defScope st) f cd A outer s H E).nox (defBody st) t ∧ t { nx := fun _ H' => Q .non H', rt := Q } (start N vs) H) : FnG P w K mg base (k + 1) f fd ps sp := by
  obtain ⟨oc, od, kV, doc, pm, an, cd, ct, osl, rfl, lk, hcd⟩ := F.ex
  refine ⟨ln, fun {A outer s H args us vs Q E} hg hr e0 hb r h => ?_⟩
  have same : ∀ b o, base.get? b = some o → s.heap.get? b = some o := fun b o z => (e0.bs b o z).1
  have inK := e0.mod.kin.keeps same
  obtain ⟨t, ht, q⟩ := body cd A hg outer s H vs Q E (hr.deeper _) h
  refine codeAny_call_function hr.depth (inK _ _ lk) rfl S.co S.gen rfl (PySem.W.codeRec_of inK hcd) (hb _ _ _ _ (wpAny_newFunctionEnv_cells S.kind (fun y hy => ?_) fun env he s1 z => ?_))
  · obtain ⟨n, v⟩ := y
    exact (S.par n (List.of_mem_zip hy).1).imp id fun c => ⟨c, PySem.W.cellsFrom_some _ _ _ (.inl c)⟩
  · subst he
    refine ⟨(e0.mod.nolimit.keeps same).keeps z.toInCall.keep, codeAny_func (wpAny_mono (ht.nox.run [] s1 (start N vs) H _ (inv_start S hr.hd e0 (ln _ _ _ _ h) r z) q) (fun fl s' d => ?_) fun _ _ d => d)⟩
    cases fl with
    | ret u => obtain ⟨v, σ', H', J, rv, d⟩ := d; exact end_of (X := cxOf CX0 P w K mg base N qual (defScope st) f cd A outer s H E) J rv d
    | next => obtain ⟨σ', H', J, d⟩ := d; exact end_of (X := cxOf CX0 P w K mg base N qual (defScope st) f cd A outer s H E) (v := .non) J rfl d
    | brk => obtain ⟨_, _, _, d⟩ := d; exact d.elim
    | cont => obtain ⟨_, _, _, d⟩ := d; exact d.elim
end
section
variable {X : Cx} {k : Nat} {f : Addr} {fd : FuncData} {ps : List Str} {sp : Sp} {E : XK} {x : Str} {p pos : Pos} {e : Expr} {es : List Expr} {t : TA}
theorem pe_callG (F : FnG X.prog X.w X.K X.mg X.base k f fd ps sp) (gd : X.A.guards = some []) (hr : Room k X.A) (hg : Gl X x) (hm : X.mg x = some (.ref f)) (hk : PySem.W.keepIn X.K (.ref f) = true) (hb : Binds X.K fd ps []) (hx : Passes CX0 X E) (ha : PA X (e :: es) t)
    (hdb : (x == ("__debug__" : Str)) = false := by decide) (he : starEach (e :: es) X.env = (false, eval e X.env) :: starEach es X.env := by rfl) (hpl : (backTo pos (starEach es X.env)).any (·.1) = false := by rfl) :
    PE X (.Call (.Name x p) (e :: es) [] pos) (tCall sp [] E t) :=
  ⟨fun pins s σ H Q I h => wpAny_Call_Name_kw (ld_glob I hg hm (PySem.W.callWith_K (h₀ := X.base) I.ok.mod.kin hk (thn (ha.run pos pins s σ H _ I h) fun us s1 ⟨vs, H1, I1, r, q⟩ => ⟨I1.kIn, by
    have q' : sp vs H1 Q E := by have := q; simp only [List.append_nil] at this; exact this
    have hl : us.length = ps.length := r.length.symm.trans (F.ln _ _ _ _ q')
    have bd : BindsTo s1 fd ⟨us, []⟩ (ps.zip us) := by have := hb s1 us I1.kIn (by simpa using hl); simpa using this
    refine wpAny_call (codeAny_mono (F.go gd hr I1.env0 bd r q') fun r s' d => ?_)
    cases r with
    | error e => exact hx pins σ H1 s1 e s' I1 d
    | ok fl => cases fl <;> first | exact I1.after d | exact d.elim⟩) he hpl) hdb)⟩
end
/-! ### the top -/
/-- the abstract heap at the top: the script alone, and that only where it is none of the module's own things -/
def topH (K : Fg) (a : Addr) (o : Obj) (ns : List Int) : Hp := fun b => if b = a ∧ K.lookup a = none then some (.frz o (.lst (ns.map V.int))) else none
theorem topH_some {K : Fg} {a b : Addr} {o : Obj} {ns : List Int} {u : HO} (h : topH K a o ns b = some u) : b = a ∧ K.lookup a = none ∧ u = .frz o (.lst (ns.map V.int)) := by
  unfold topH at h
  split at h
  · rename_i c; exact ⟨c.1, c.2, (Option.some.inj h).symm⟩
  · cases h
theorem topH_none {K : Fg} {a b : Addr} {o : Obj} {ns : List Int} (h : ¬ (b = a ∧ K.lookup a = none)) : topH K a o ns b = none := if_neg h
section
variable {P : Program} {w : World} {K : Fg} {mg mb : Str → Option Value} {a fa : Addr} {s : Shared} {vs : List Value} {ns : List Int} {k : Nat} {fd : FuncData} {x : Str} {sp : Sp}
theorem top_seq (KX : K.In s.heap) (ha : s.heap.get? a = some { cls := .type "list", data := .seq vs.toArray }) (hi : IntsAre vs ns) (hl : ns.length ≤ sizeLine) : SqL K (topH K a { cls := .type "list", data := .seq vs.toArray } ns) a (ns.map V.int) := by
  cases e : K.lookup a with
  | none => exact .inl (.inr ⟨_, if_pos ⟨rfl, e⟩⟩)
  | some o =>
    have := (KX a o e).symm.trans ha
    cases this
    exact .inr ⟨_, vs.toArray, _, e, rfl, rfl, rfl, by rw [List.size_toArray, hi.length]; exact hl, by simpa using vals_ints hi⟩
theorem top_ok (ha : s.heap.get? a = some { cls := .type "list", data := .seq vs.toArray }) (hi : IntsAre vs ns) (hl : ns.length ≤ sizeLine) : HOk P w (topH K a { cls := .type "list", data := .seq vs.toArray } ns) s.heap := fun b u z => by
  obtain ⟨rfl, _, rfl⟩ := topH_some z
  exact ⟨ha, by rw [List.length_map]; exact hl, vs, _, vals_ints hi, ha⟩
theorem top_env (KX : K.In s.heap) (hns : s.heap.Ns mainGlobals mg) (hb : s.heap.Ns builtinsNs mb) (hbb : ∀ x : Str, x ≠ "__name__" → mb x = bootBuiltins x) (hlim : s.heap.NoLimit) (hg : s.gens = #[]) (ha : s.heap.get? a = some { cls := .type "list", data := .seq vs.toArray }) (hi : IntsAre vs ns) (hl : ns.length ≤ sizeLine) :
    K.In (hidT s.heap (topH K a { cls := .type "list", data := .seq vs.toArray } ns)) ∧ (hidT s.heap (topH K a { cls := .type "list", data := .seq vs.toArray } ns)).Ns mainGlobals mg ∧
      Env0 P w K mg (hidT s.heap (topH K a { cls := .type "list", data := .seq vs.toArray } ns)) callerA [] s (topH K a { cls := .type "list", data := .seq vs.toArray } ns) := by
  let H := topH K a { cls := .type "list", data := .seq vs.toArray } ns
  have stay : ∀ {b : Addr} {o : Obj}, s.heap.get? b = some o → (b = a → K.lookup a = none → False) → (hidT s.heap H).get? b = some o := fun z n => hidT_get z (topH_none fun c => n c.1 c.2)
  have ns' : ∀ {b : Addr} {m : Str → Option Value}, s.heap.Ns b m → (hidT s.heap H).Ns b m := fun {b m} z => by
    obtain ⟨o, es, ep, z1, z2, z3⟩ := z
    refine ⟨o, es, ep, stay z1 fun c _ => ?_, z2, z3⟩
    subst c
    rw [ha] at z1
    cases z1
    cases z2
  have kin : K.In (hidT s.heap H) := fun b o z => stay (KX b o z) fun c n => by subst c; rw [n] at z; cases z
  obtain ⟨mc, l1, l2⟩ := hlim
  exact ⟨kin, ns' hns, rfl, ⟨kin, ns' hns, ⟨mb, ns' hb, hbb⟩, mc, ns' l1, l2⟩, fun b o z => of_hidT z, Nat.le_of_eq (hidT_size _ _), trivial, fun b z => (nomatch z), top_ok ha hi hl, .of_eq hg⟩
theorem top_law (KX : K.In s.heap) (hns : s.heap.Ns mainGlobals mg) (hb : s.heap.Ns builtinsNs mb) (hbb : ∀ x : Str, x ≠ "__name__" → mb x = bootBuiltins x) (hlim : s.heap.NoLimit) (hg : s.gens = #[]) (ha : s.heap.get? a = some { cls := .type "list", data := .seq vs.toArray }) (hi : IntsAre vs ns) (hl : ns.length ≤ sizeLine)
    (hr : Room k callerA) (F : ∀ base : Heap, K.In base → base.Ns mainGlobals mg → FnG P w K mg base k fa fd [x] sp) (hbind : ∀ (s : Shared) (u : Value), BindsTo s fd ⟨[u], []⟩ [(x, u)])
    (hsp : ∀ H : Hp, Only H → SqL K H a (ns.map V.int) → sp [.ref a] H (fun v _ => v = .bl true) fun _ _ _ => False) :
    codeAny (model P w) callerA (.call (.ref fa) ⟨[.ref a], []⟩) (fun r s' => r = .ok (.ret (.bool true)) ∧ OldK s.heap s'.heap ∧ s'.os = s.os ∧ AllBare s'.gens) s := by
  obtain ⟨kin, hn, e0⟩ := top_env (P := P) (w := w) KX hns hb hbb hlim hg ha hi hl
  have only : Only (topH K a { cls := .type "list", data := .seq vs.toArray } ns) := fun b => by
    cases z : topH K a { cls := .type "list", data := .seq vs.toArray } ns b with
    | none => exact .inl rfl
    | some u => obtain ⟨_, _, rfl⟩ := topH_some z; exact .inr ⟨_, _, rfl⟩
  refine codeAny_mono ((F _ kin hn).go (us := [.ref a]) (vs := [.ref a]) rfl hr e0 (hbind s (.ref a)) (.cons rfl .nil) (hsp _ only (top_seq KX ha hi hl))) fun r s' d => ?_
  cases r with
  | error e => exact absurd d (by intro z; exact z.elim)
  | ok fl =>
    cases fl with
    | next => exact d.elim
    | brk => exact d.elim
    | cont => exact d.elim
    | ret u =>
      obtain ⟨v, H', hos, hbare, un, ok', rv, rfl⟩ := d
      cases (show u = Value.bool true from rv)
      refine ⟨rfl, OldK.of_keep fun b o z => ?_, hos, hbare⟩
      cases q : topH K a { cls := .type "list", data := .seq vs.toArray } ns b with
      | none => exact un.keep b o z q (fun c => nomatch c) (fun c => nomatch c)
      | some u =>
        obtain ⟨rfl, _, rfl⟩ := topH_some q
        have := (ok' _ _ (un.frzs _ _ _ q)).1
        rw [ha] at z
        cases z
        exact this
end
theorem walkG {l : PySem.W.OpenLaw} {n k : Nat} {q : Program} {loose : List Str} {XP : (Str → Option Value) → Heap → Prop} {YP : World → Heap → Prop} {d : DefRec} {K : Params → Fg} {sp : World → Sp} {x : Str} (hn : l.most = some n) (hn2 : n ≤ sizeLine) (hdf : d.params.defaults = []) (hr : Room k callerA)
    (hY : ∀ (w : World) (h : Heap), YP w h → (K w.params).In h)
    (F : ∀ (w : World) (mg : Str → Option Value) (fa : Addr) (h : Heap), (K w.params).In h → h.Ns mainGlobals mg → mg d.name = some (.ref fa) → ∃ fd : FuncData, (∀ (s : Shared) (u : Value), BindsTo s fd ⟨[u], []⟩ [(x, u)]) ∧
      ∀ base : Heap, (K w.params).In base → base.Ns mainGlobals mg → FnG l.prog w (K w.params) mg base k fa fd [x] (sp w))
    (hsp : ∀ (w : World) (H : Hp) (a : Addr) (ns : List Int), ns.length ≤ n → Only H → SqL (K w.params) H a (ns.map V.int) → sp w [.ref a] H (fun v _ => v = .bl true) fun _ _ _ => False) :
    PySem.W.WalkO q loose XP YP l.row.toRowW d [] (fun f vs => PySem.call f vs) :=
  Att.attach_call hn hdf fun w s₀ s₁ mg mb fa o pm cd doc a vs ns G Y ho hd hcd hmg hobj hints hlen hg => by
    obtain ⟨fd, hb, hF⟩ := F w mg fa _ (hY w _ Y) G.T.g hmg
    exact top_law (hY w _ Y) G.T.g G.T.b G.T.builtins G.T.nolimit hg hobj hints (Nat.le_trans hlen hn2) hr hF hb fun H hO hS => hsp w H a ns hlen hO hS
/-! ### repr(list) -/
def rRepr (K : Fg) : List V → Hp → VK → Prop := fun vs H Q => ∃ x d, vs = [x] ∧ Dp K H x (.list d) ∧ PyData.showableAll d = true ∧ PyData.hasDictAll d = false ∧ PyData.depthAll d ≤ 40 ∧ (listText (PyData.shownAll d)).length ≤ sizeLine ∧ Q (.str (listText (PyData.shownAll d))) H
section
variable {prog : Program} {w : World} {A : Around} {E : Value → Shared → Prop} {s : Shared}
theorem repr_list {v : Value} {d : List PyData} {az : List Addr} {Q : Value → Shared → Prop} (r : Reads s.heap v (.list d) az) (hs : PyData.showableAll d = true) (hd : PyData.hasDictAll d = false) (hg : A.guards = some []) (hu : A.units + 60 < cLine) (h40 : PyData.depthAll d ≤ 40) (hz : (listText (PyData.shownAll d)).length ≤ sizeLine)
    (hQ : ∀ h' u tk, (∀ b o, s.heap.get? b = some o → h'.get? b = some o) → Q (.str (listText (PyData.shownAll d)) u) { s with heap := h', toks := tk }) : wpAny (model prog w) A (call (.builtin "repr") [v]) Q E s := by
  have r0 := r
  cases r with
  | list h1 h2 h3 h4 =>
    rename_i a o vs n az'
    obtain ⟨bs, hb, hk⟩ := ReprAllK.of_readsAll (prog := prog) (w := w) h4 hs (fun hx => by rw [hd] at hx; cases hx) (fun t ht => Nat.le_trans (listText_mem_le ht) hz)
    have hna : a ∉ bs := not_mem_of_deeper r0 (by simp only [PyData.depth]; omega) hb
    have hTy : s.TypeIs (.ref a) "list" := ⟨o, h1, h2⟩
    refine Calls.call_function_entry F.kind_repr F.plain_repr F.entry_repr (F.args_repr1 _) ?_
    unfold Builtin.«repr»
    refine wpAny_bind (m := oneArg "repr" _) (wpAny_pure ?_)
    refine wpAny_bind (wpAny_cRoomFor (by show A.units + 1 < _; omega) ?_)
    refine wpAny_bind (wpAny_specialOf (name := Str.ofString "__repr__") hTy F.slot_list_repr.lookup ?_)
    have fin : ∀ h' u tk, (∀ b o, s.heap.get? b = some o → h'.get? b = some o) → wpAny (model prog w) A.in1 (isInstance (.str (listText (PyData.shownAll d)) u) (.type "str") >>= fun b => if b = true then ret (.str (listText (PyData.shownAll d)) u) else rule "repr.not-str" >>= fun _ => typeNameOf (.str (listText (PyData.shownAll d)) u) >>= fun nm => raiseError "TypeError" s!"__repr__ returned non-string (type {nm})")
        (fun fin s' => ∃ v, fin = .done (.ret v) ∧ Q v s') E { s with heap := h', toks := tk } := fun h' u tk hk =>
      wpAny_bind (wpAny_isInstance (T := "str") (b := true) rfl isSubtype_str_str (wpAny_pure ⟨_, rfl, hQ h' u tk hk⟩))
    obtain ⟨l⟩ := vs
    refine wpAny_bind (m := callSpecialIfBound? (.ref a) (Str.ofString "__repr__")) (wpAny_callSpecialIfBound?_slot (name := Str.ofString "__repr__") hTy F.slot_list_repr ?_)
    cases l with
    | nil =>
      have h4' : ReadsAll s.heap [] d _ := h4
      cases h4'
      exact call_list_repr_empty hTy h1 h3 (fin s.heap _ _ fun _ _ e => e)
    | cons x l =>
      exact call_list_reprK h1 h2 h3 hna (by simpa using hk.length_eq) (fun i y e => hk.item i y (by simpa using e)) (show A.in1.guards = some [] from hg) (fun b _ => Clear.nil b) (by show A.units + 1 + _ < _; omega) (fun _ _ e => e) (fun h' u tk hk' => fin h' u tk hk') hz
end
theorem cr_repr {X : Cx} (hg : X.A.guards = some []) (hu : X.A.units + 64 < cLine) : CallR X (.builtin "repr") (rRepr X.K) := by
  intro pins s σ H xs us Q I r h
  obtain ⟨x, d, rfl, hd, h1, h2, h3, h4, q⟩ := h
  obtain ⟨u, rfl, ru⟩ := vals1 r
  obtain ⟨az, rd⟩ := Dp.reads I _ _ _ hd ru
  exact repr_list rd h1 h2 hg (by omega) h3 h4 fun h' u tk hk => ⟨.str _, H, I.kept hk, ⟨_, rfl⟩, q⟩
end B
/-! B: dicts that change, told by any expression; dict comprehensions with tests; sorted keys -/
namespace B
open PySem L2
open PySem.W (Tup T3 T4 Datum DatumOrd)
open Evl (Ex)
section
variable {κ α : Type} [DecidableEq κ] [PyKey κ] [Py α] {K : Fg} {W W' : Wd} {d : Addr} {kv : List (κ × α)} {ε : Ef} {σ : SS} {te ty tv tx : TE}
/-- the dict at d holds kv, now and while ε is at work -/
def DStay {κ α : Type} [PyKey κ] [Py α] (ε : Ef) (K : Fg) (W : Wd) (d : Addr) (kv : List (κ × α)) : Prop := ∀ W', Stp ε W W' → ∃ ks, W'.H d = some (.dK ks) ∧ KReps K W'.B ks kv
theorem DMut.stay (m : DMut K W d kv) (hS : d ∉ ε.S) : DStay ε K W d kv := fun _ g => (m.s g hS).ex
theorem DMut.pur (m : DMut K W d kv) : DStay pur K W d kv := fun _ g => (m.gr g.pure).ex
theorem DictAt.stay {D : Dict κ α} (h : DictAt K W (.ref d) D) : DStay ε K W d D.kv := fun W' g => by
  obtain ⟨a, ks, e, _, h2, r⟩ := h.s g
  cases e
  exact ⟨ks, h2, r⟩
/-- d.get(k, x) -/
theorem ev_dget2E {k : κ} {x : α} (hd : EvR ε K te σ W (Raw.mk (.ref d))) (m : DStay ε K W d kv) (hk : EvP ε ty σ W (fun u _ => u = kV (PyKey.key k))) (hx : EvR ε K tx σ W x) : EvR ε K (tDGet2 te ty tx) σ W ((klook kv k).getD x) := fun W1 g1 Q q => hd W1 g1 _ fun v W1' g1' e => by
  obtain ⟨ks, e1, r⟩ := m _ (g1.trans g1')
  refine ⟨d, e, .inl ⟨ks, .inl e1⟩, hk W1' (g1.trans g1') _ fun u W2 g2 eu => hx W2 ((g1.trans g1').trans g2) _ fun w W3 g3 rw => ?_⟩
  obtain ⟨ks, e3, r⟩ := m _ (((g1.trans g1').trans g2).trans g3)
  rcases klk r k with ⟨h1, h2⟩ | ⟨y, v, h1, h2, h3⟩
  · exact ⟨none, .inl ⟨ks, _, .inl e3, eu, h2.symm⟩, q _ W3 ((g1'.trans g2).trans g3) (by rw [h1]; exact rw)⟩
  · exact ⟨some v, .inl ⟨ks, _, .inl e3, eu, h2.symm⟩, q _ W3 ((g1'.trans g2).trans g3) (by rw [h1]; exact h3)⟩
/-- d[k] -/
theorem ev_dgetE {k : κ} {x : α} (hd : EvR ε K te σ W (Raw.mk (.ref d))) (m : DStay ε K W d kv) (hk : EvP ε ty σ W (fun u _ => u = kV (PyKey.key k))) (hx : klook kv k = some x) : EvR ε K (tDGet te ty) σ W x := fun W1 g1 Q q => hd W1 g1 _ fun v W1' g1' e => hk W1' (g1.trans g1') _ fun u W2 g2 eu => by
  obtain ⟨ks, e3, r⟩ := m _ ((g1.trans g1').trans g2)
  obtain ⟨v, h1, h2⟩ := r.some hx
  exact ⟨d, v, e, .inl ⟨ks, _, .inl e3, eu, h1.symm⟩, q _ W2 (g1'.trans g2) h2⟩
/-- k in d -/
theorem ev_dinE {k : κ} (hd : EvR ε K te σ W (Raw.mk (.ref d))) (m : DStay ε K W d kv) (hk : EvP ε ty σ W (fun u _ => u = kV (PyKey.key k))) : EvR ε K (tDIn ty te) σ W (decide (k ∈ kv.map (·.1))) := fun W1 g1 Q q => hk W1 g1 _ fun u W2 g2 eu => hd W2 (g1.trans g2) _ fun v W3 g3 e => by
  obtain ⟨ks, e3, r⟩ := m _ ((g1.trans g2).trans g3)
  rcases klk r k with ⟨h1, h2⟩ | ⟨y, v, h1, h2, h3⟩
  · refine ⟨d, none, e, .inl ⟨ks, _, .inl e3, eu, h2.symm⟩, q _ W3 (g2.trans g3) ?_⟩
    show V.bl _ = V.bl _
    rw [decide_eq_false (klook_none.mp h1)]; rfl
  · refine ⟨d, some v, e, .inl ⟨ks, _, .inl e3, eu, h2.symm⟩, q _ W3 (g2.trans g3) ?_⟩
    show V.bl _ = V.bl _
    rw [decide_eq_true (List.mem_map.mpr ⟨_, klook_mem h1, rfl⟩)]; rfl
/-- len(d) -/
theorem ev_lenDE (hd : EvR ε K te σ W (Raw.mk (.ref d))) (m : DStay ε K W d kv) : EvR ε K (tCB rLenD (tCons te tNil)) σ W (kv.length : Int) := fun W1 g1 Q q => hd W1 g1 _ fun v W2 g2 e => by
  obtain ⟨ks, e3, r⟩ := m _ (g1.trans g2)
  refine ⟨d, ks, by rw [show v = V.ref d from e], e3, ?_⟩
  rw [KReps.len r]
  exact q _ W2 g2 rfl
/-- d[k] = v -/
theorem s_dputE {D : Ends} {k : κ} {x : α} (hd : EvR pur K te σ W (Raw.mk (.ref d))) (m : DMut K W d kv) (hv : EvR pur K tv σ W x) (hk : EvP pur ty σ W (fun u _ => u = kV (PyKey.key k))) (hl : kv.length < 100000)
    (q : ∀ W', Md [d] W W' → On W W' → DMut K W' d (kput kv k x) → D.nx σ W'.H) : sDPut te ty tv D σ W.H := hv W (.start trivial) _ fun v W1 g1 rv => hd W1 g1 _ fun v0 W1' g1' e0 => hk W1' (g1.trans g1') _ fun u W2 g2 e => by
  have g := ((g1.trans g1').trans g2).pure
  obtain ⟨ks, e1, r⟩ := (m.gr g).ex
  have b := (m.gr g).b
  exact ⟨d, _, e0, .inl ⟨ks, PyKey.key k, e1, e, by rw [KReps.len r]; exact Evl.sz_lt hl, rfl⟩, q (W2.put d _ b) ((Grow.s g).trans (md_put b)) (g.on.trans (md_put b).on) ⟨b, _, upd_same, KReps.put r k (rep_s (g1'.trans g2) rv)⟩⟩
theorem q_dputE {D : Ends} {tz : TS} {k : κ} {x : α} (hd : EvR pur K te σ W (Raw.mk (.ref d))) (m : DMut K W d kv) (hv : EvR pur K tv σ W x) (hk : EvP pur ty σ W (fun u _ => u = kV (PyKey.key k))) (hl : kv.length < 100000)
    (q : ∀ W', Md [d] W W' → On W W' → DMut K W' d (kput kv k x) → tz D σ W'.H) : tSeq (sDPut te ty tv) tz D σ W.H := s_dputE (D := { D with nx := tz D }) hd m hv hk hl q
/-- d.pop(k), the value left alone -/
theorem s_dpopE {D : Ends} {k : κ} {x : α} (hd : EvR pur K te σ W (Raw.mk (.ref d))) (m : DMut K W d kv) (hk : EvP pur ty σ W (fun u _ => u = kV (PyKey.key k))) (hx : klook kv k = some x)
    (q : ∀ W', Md [d] W W' → On W W' → DMut K W' d (kdrop kv k) → D.nx σ W'.H) : tDrop (tDPop1 te ty) D σ W.H := hd W (.start trivial) _ fun v0 W1 g1 e0 => by
  obtain ⟨ks, e1, r⟩ := (m.gr g1.pure).ex
  refine ⟨d, e0, .inl ⟨ks, .inl e1⟩, hk W1 g1 _ fun u W2 g2 e => ?_⟩
  have g := (g1.trans g2).pure
  obtain ⟨ks, e1, r⟩ := (m.gr g).ex
  have b := (m.gr g).b
  obtain ⟨v, h1, h2⟩ := r.some hx
  exact ⟨ks, PyKey.key k, v, e1, e, h1, q (W2.put d _ b) ((Grow.s g).trans (md_put b)) (g.on.trans (md_put b).on) ⟨b, _, upd_same, KReps.drop r k⟩⟩
/-- d, where it is a dict that stays -/
theorem DictAt.mut' {v : V} {κ α : Type} [PyKey κ] [Py α] {D : Dict κ α} (h : DictAt K W v D) : ∃ a ks, v = .ref a ∧ W.H a = some (.dK ks) ∧ KReps K W.B ks D.kv := by
  obtain ⟨a, ks, e, _, h2, r⟩ := h
  exact ⟨a, ks, e, h2, r⟩
end
section
variable {κ : Type} [DecidableEq κ] [PyKey κ] {K : Fg} {W : Wd} {d : Addr} {kv : List (κ × Int)} {ε : Ef} {σ : SS} {te : TE}
/-- sum(d.values()) -/
theorem ev_sumVE (hd : EvR ε K te σ W (Raw.mk (.ref d))) (m : DStay ε K W d kv) : EvR ε K (tCB rSumV (tCons (tVals te) tNil)) σ W (kv.map (·.2)).sum := fun W1 g1 Q k => hd W1 g1 _ fun v W2 g2 e => by
  obtain ⟨ks, e3, r⟩ := m _ (g1.trans g2)
  refine ⟨d, ks, e, e3, fun v hv => ?_⟩
  refine ⟨v, d, ks, kv.map (·.2), rfl, upd_same, by rw [upd_ne (fun z => by rw [z, hv] at e3; cases e3)]; exact e3, kreps_ints r, ?_⟩
  exact k _ (W2.put v (viewHO v d) (W2.free hv)) (g2.and (W2.grow_put hv)) rfl
/-- min(d.values()) -/
theorem ev_minVE {i : Int} (hd : EvR ε K te σ W (Raw.mk (.ref d))) (m : DStay ε K W d kv) (h1 : i ∈ kv.map (·.2)) (h2 : ∀ y ∈ kv.map (·.2), i ≤ y) : EvR ε K (tCB rMinV (tCons (tVals te) tNil)) σ W i := fun W1 g1 Q k => hd W1 g1 _ fun v W2 g2 e => by
  obtain ⟨ks, e3, r⟩ := m _ (g1.trans g2)
  refine ⟨d, ks, e, e3, fun v hv => ?_⟩
  refine ⟨v, d, ks, kv.map (·.2), rfl, upd_same, by rw [upd_ne (fun z => by rw [z, hv] at e3; cases e3)]; exact e3, kreps_ints r, List.length_pos_of_mem h1, fun m' h3 h4 => ?_⟩
  have : m' = i := Int.le_antisymm (h4 i h1) (h2 m' h3)
  rw [this]
  exact k _ (W2.put v (viewHO v d) (W2.free hv)) (g2.and (W2.grow_put hv)) rfl
end
section
variable {κ α : Type} [PyKV κ] [Py α] {K : Fg} {W : Wd} {d : Addr} {kv : List (κ × α)} {ε : Ef} {σ : SS} {te : TE}
theorem kreps_keys {H H' : Hp} {ks : List (Key × V)} {kv : List (κ × α)} (r : KReps K H ks kv) : Reps K H' (ks.map fun q => kV q.1) (kv.map (·.1)) := by
  induction r with
  | nil => exact .nil
  | @cons p q _ _ a b ih => exact .cons (by show Py.rep K H' (kV p.1) q.1; rw [a.1]; exact PyKV.krep _ _ _) ih
/-- list(d) -/
theorem ev_listDE (hd : EvR ε K te σ W (Raw.mk (.ref d))) (m : DStay ε K W d kv) : EvR ε K (tCB rListD (tCons te tNil)) σ W (kv.map (·.1)) := fun W1 g1 Q q => hd W1 g1 _ fun v W2 g2 e => by
  obtain ⟨ks, e3, r⟩ := m _ (g1.trans g2)
  exact ⟨d, ks, by rw [show v = V.ref d from e], e3, fun p hp => q _ (W2.add p _) (g2.and (W2.grow_add hp)) ⟨p, _, rfl, upd_same, kreps_keys r⟩⟩
end
/-! ### keys in order -/
def sle (a b : Str) : Bool := decide (a.cps.toList ≤ b.cps.toList)
theorem sle_trans {a b c : Str} (h : sle a b = true) (h' : sle b c = true) : sle a c = true := by
  simp only [sle, decide_eq_true_eq] at *
  exact List.le_trans h h'
theorem sle_total (a b : Str) : sle a b = true ∨ sle b a = true := by
  simp only [sle, decide_eq_true_eq]
  exact List.le_total _ _
theorem sle_anti {a b : Str} (h : sle a b = true) (h' : sle b a = true) : a = b := by
  simp only [sle, decide_eq_true_eq] at *
  have := List.le_antisymm h h'
  cases a with
  | mk x => cases b with
    | mk y => exact congrArg Str.mk (Array.toList_inj.mp this)
theorem rising_pw : ∀ (r : List Str) (p : Str), PyProof.Rows.risingS p r = true → (p :: r).Pairwise (fun a b => sle a b = true)
  | [], p, _ => by simp
  | x :: r, p, h => by
    simp only [PyProof.Rows.risingS, Bool.and_eq_true, Bool.not_eq_true'] at h
    have ih := rising_pw r x h.2
    rw [List.pairwise_cons]
    have px : sle p x = true := by
      have := h.1
      rw [PyProof.Rows.ltCps_eq] at this
      have := of_decide_eq_false this
      simp only [sle, decide_eq_true_eq]
      exact List.not_lt.mp this
    refine ⟨fun a ha => ?_, ih⟩
    rcases List.mem_cons.mp ha with rfl | ha
    · exact px
    · exact sle_trans px ((List.pairwise_cons.mp ih).1 a ha)
theorem sorted_pw {ys : List Str} (h : PyProof.Rows.sortedS ys = true) : ys.Pairwise (fun a b => sle a b = true) := by
  cases ys with
  | nil => exact .nil
  | cons x r => exact rising_pw r x h
theorem str_sorted_uniq {xs ys : List Str} (hp : xs.Perm ys) (h1 : xs.Pairwise (fun a b => sle a b = true)) (h2 : ys.Pairwise (fun a b => sle a b = true)) : xs = ys :=
  hp.eq_of_pairwise (fun a b _ _ h h' => sle_anti h h') h1 h2
def sortS (xs : List Str) : List Str := xs.mergeSort sle
theorem sortS_perm (xs : List Str) : (sortS xs).Perm xs := List.mergeSort_perm _ _
theorem sortS_pw (xs : List Str) : (sortS xs).Pairwise (fun a b => sle a b = true) := List.pairwise_mergeSort (le := sle) (fun _ _ _ => sle_trans) (fun a b => by rcases sle_total a b with h | h <;> simp [h]) xs
theorem sortS_eq {xs ys : List Str} (hp : ys.Perm xs) (h : ys.Pairwise (fun a b => sle a b = true)) : ys = sortS xs := str_sorted_uniq (hp.trans (sortS_perm xs).symm) h (sortS_pw xs)
abbrev rSortedDS : List V → Hp → VK → Prop := fun xs H Q => ∃ (a : Addr) (kvs : List (Key × V)) (ks : List Str), xs = [.ref a] ∧ Rd H a (.dK kvs) ∧ kvs.map (·.1) = ks.map Sum.inr ∧ ks.length < 64 ∧ ∀ ys p, ys.Perm ks → PyProof.Rows.sortedS ys = true → H p = none → Q (.ref p) (upd H p (.lst (ys.map V.str)))
abbrev rSortedDI : List V → Hp → VK → Prop := fun xs H Q => ∃ (a : Addr) (kvs : List (Key × V)) (ks : List Int), xs = [.ref a] ∧ Rd H a (.dK kvs) ∧ kvs.map (·.1) = ks.map Sum.inl ∧ ks.length < 64 ∧ ∀ (ys : List Int) (p : Addr), ys.Perm ks → ys.Pairwise (· ≤ ·) → H p = none → Q (.ref p) (upd H p (.lst (ys.map V.int)))
theorem cr_sortedDS {X : Cx} (hc : X.calm = true := by rfl) : CallR X (.builtin "sorted") rSortedDS := call_sortedD hc
theorem cr_sortedDI {X : Cx} (hc : X.calm = true := by rfl) : CallR X (.builtin "sorted") rSortedDI := call_sortedDI hc
section
variable {α : Type} [Py α] {K : Fg} {W : Wd} {d : Addr} {ε : Ef} {σ : SS} {te : TE}
theorem kreps_keysS {H : Hp} {ks : List (Key × V)} {kv : List (Str × α)} (r : KReps K H ks kv) : ks.map (·.1) = (kv.map (·.1)).map Sum.inr := by
  induction r with
  | nil => rfl
  | cons a b ih => rw [List.map_cons, List.map_cons, List.map_cons, ih, a.1]; rfl
theorem kreps_keysI {H : Hp} {ks : List (Key × V)} {kv : List (Int × α)} (r : KReps K H ks kv) : ks.map (·.1) = (kv.map (·.1)).map Sum.inl := by
  induction r with
  | nil => rfl
  | cons a b ih => rw [List.map_cons, List.map_cons, List.map_cons, ih, a.1]; rfl
/-- sorted(d) -/
theorem ev_sortedDS {kv : List (Str × α)} (hd : EvR ε K te σ W (⟨kv⟩ : Dict Str α)) (hl : kv.length < 64) : EvR ε K (tCB rSortedDS (tCons te tNil)) σ W (sortS (kv.map (·.1))) := fun W1 g1 Q k => hd W1 g1 _ fun v W2 g2 ⟨a, ks, e, rd, r⟩ =>
  ⟨a, ks, kv.map (·.1), by rw [e], W2.sub.rd rd, kreps_keysS r, by simpa using hl, fun ys p h1 h2 hp => by
    rw [sortS_eq h1 (sorted_pw h2)]
    exact k _ (W2.add p _) (g2.and (W2.grow_add hp)) ⟨p, _, rfl, upd_same, str_reps _⟩⟩
theorem ev_sortedDI {kv : List (Int × α)} {ys : List Int} (hd : EvR ε K te σ W (⟨kv⟩ : Dict Int α)) (hl : kv.length < 64) (hp : ys.Perm (kv.map (·.1))) (ho : ys.Pairwise (· ≤ ·)) : EvR ε K (tCB rSortedDI (tCons te tNil)) σ W ys := fun W1 g1 Q k => hd W1 g1 _ fun v W2 g2 ⟨a, ks, e, rd, r⟩ =>
  ⟨a, ks, kv.map (·.1), by rw [e], W2.sub.rd rd, kreps_keysI r, by simpa using hl, fun zs p h1 h2 hp0 => by
    have e2 : zs = ys := (h1.trans hp.symm).eq_of_pairwise (fun a b _ _ h h' => Int.le_antisymm h h') h2 ho
    subst e2
    exact k _ (W2.add p _) (g2.and (W2.grow_add hp0)) ⟨p, _, rfl, upd_same, int_reps _⟩⟩
end
end B
/-! B: new dicts that may change: comprehensions with targets and tests, also over a locked dict -/
namespace B
open PySem L2
open PySem.W (Tup T3 T4 Datum DatumOrd)
open Evl (Ex)
/-- a new dict that may change -/
def EvM {κ α : Type} [DecidableEq κ] [PyKey κ] [Py α] (ε : Ef) (K : Fg) (te : TE) (σ : SS) (W : Wd) (kv : List (κ × α)) : Prop :=
  ∀ W1, Stp ε W W1 → ∀ Q : VK, (∀ p W2, Stp ε W1 W2 → W1.H p = none → DMut K W2 p kv → Q (.ref p) W2.H) → te σ W1.H Q
def kfill {κ α : Type} [DecidableEq κ] (l : List (κ × α)) : List (κ × α) := l.foldl (fun kv e => kput kv e.1 e.2) []
theorem kput_new {κ α : Type} [DecidableEq κ] {kv : List (κ × α)} {k : κ} {v : α} (h : k ∉ kv.map (·.1)) : kput kv k v = kv ++ [(k, v)] := by
  unfold kput
  rw [if_neg]
  intro z
  obtain ⟨q, h1, h2⟩ := List.any_eq_true.mp z
  exact h (List.mem_map.mpr ⟨q, h1, of_decide_eq_true h2⟩)
theorem kfill_app {κ α : Type} [DecidableEq κ] : ∀ (l kv : List (κ × α)), ((kv ++ l).map (·.1)).Nodup → l.foldl (fun kv e => kput kv e.1 e.2) kv = kv ++ l
  | [], kv, _ => by simp
  | e :: l, kv, n => by
    have h : e.1 ∉ kv.map (·.1) := by
      rw [List.map_append, List.nodup_append] at n
      intro z
      exact n.2.2 _ z e.1 (by simp) rfl
    rw [List.foldl_cons, kput_new h, kfill_app l (kv ++ [(e.1, e.2)]) (by simpa using n)]
    simp
theorem kfill_id {κ α : Type} [DecidableEq κ] {l : List (κ × α)} (n : (l.map (·.1)).Nodup) : kfill l = l := kfill_app l [] (by simpa using n)
theorem kfill_len {κ α : Type} [DecidableEq κ] : ∀ (l kv : List (κ × α)), (l.foldl (fun kv e => kput kv e.1 e.2) kv).length ≤ kv.length + l.length
  | [], kv => by simp
  | e :: l, kv => by
    rw [List.foldl_cons]
    have := kfill_len l (kput kv e.1 e.2)
    have := kput_len kv e.1 e.2
    rw [List.length_cons]; omega
section
variable {α β κ : Type} [Py α] [Py β] [DecidableEq κ] [PyKey κ] {K : Fg} {W : Wd} {σ : SS} {ε : Ef} {te tk tv : TE} {tt : TT} {wi : TI} {tg : TG} {vs : List Nat}
theorem EvM.toD {kv : List (κ × α)} (h : EvM ε K te σ W kv) : EvD ε K te σ W (⟨kv⟩ : Dict κ α) := fun W1 g1 Q k => h W1 g1 Q fun p W2 g2 f m => by
  obtain ⟨ks, e, r⟩ := m.ex
  exact k _ (W2.fix p _ e) (g2.fix f g1.i e m.b) ⟨p, ks, rfl, upd_same, e, KReps.mono (exExt (ex_fix e m.b)) r⟩
theorem EvM.is {kv kv' : List (κ × α)} (h : EvM ε K te σ W kv) (e : kv = kv') : EvM ε K te σ W kv' := e ▸ h
theorem em_new : EvM ε K tDNewK σ W ([] : List (κ × α)) := fun W1 g1 Q k p hp => k p (W1.put p (.dK []) (W1.free hp)) (g1.rf.and (W1.grow_put hp)) hp (DMut.new W1 hp)
theorem s_asgM {D : Ends} {i : Nat} {kv : List (κ × α)} (h : EvM ε K te σ W kv) (s : ε.I W) (k : ∀ p W', Stp ε W W' → W.H p = none → DMut K W' p kv → D.nx (σ.set i (some (.ref p))) W'.H) : tAsg te (gName i) D σ W.H := h W (.start s) _ k
theorem q_asgM {D : Ends} {tz : TS} {i : Nat} {kv : List (κ × α)} (h : EvM ε K te σ W kv) (s : ε.I W) (k : ∀ p W', Stp ε W W' → W.H p = none → DMut K W' p kv → tz D (σ.set i (some (.ref p))) W'.H) : tSeq (tAsg te (gName i)) tz D σ W.H := h W (.start s) _ k
theorem s_retM {D : Ends} {kv : List (κ × α)} (h : EvM ε K te σ W kv) (s : ε.I W) (k : ∀ p W', Stp ε W W' → W.H p = none → DMut K W' p kv → D.rt (.ref p) W'.H) : tRet te D σ W.H := h W (.start s) _ k
/-- {k: v for x in .. if t} -/
theorem em_dc {xs : List α} {p : α → Bool} {f : α → κ × β} {P : α → SS → SS → Wd → Prop} (hi : EvI ε K wi σ W xs) (hg : GT K tg P) (hw : ∀ x σ2 W', P x (wipe σ vs) σ2 W' → wipe σ2 vs = wipe σ vs)
    (ht : ∀ x W' σ2, x ∈ xs → Stp ε W W' → P x (wipe σ vs) σ2 W' → EvT ε tt σ2 W' (p x))
    (hk : ∀ x W' σ2, x ∈ xs → p x = true → Stp ε W W' → P x (wipe σ vs) σ2 W' → EvP ε tk σ2 W' (fun u _ => u = kV (PyKey.key (f x).1)))
    (he : ∀ x W' σ2, x ∈ xs → p x = true → Stp ε W W' → P x (wipe σ vs) σ2 W' → EvR ε K tv σ2 W' (f x).2)
    (hP : ∀ x σ2 W' W'', P x (wipe σ vs) σ2 W' → Stp ε W' W'' → P x (wipe σ vs) σ2 W'') (hl : xs.length < 100000) : EvM ε K (tDc wi tg tt tk tv vs) σ W (kfill ((xs.filter p).map f)) := fun W1 g1 Q k =>
  hi W1 g1 _ fun J S W2 g2 s2 sg src D hD => by
    have DS : D ∉ ε.S := Ef.off g2.i hD
    have ln : ∀ i, (kfill (((xs.take i).filter p).map f)).length ≤ i := fun i => by
      have h1 := kfill_len (((xs.take i).filter p).map f) ([] : List (κ × β))
      have h2 := List.length_filter_le p (xs.take i)
      have h3 : (xs.take i).length ≤ i := by rw [List.length_take]; omega
      rw [List.length_map] at h1
      have h4 : ([] : List (κ × β)).length = 0 := rfl
      unfold kfill
      omega
    refine ⟨fun i m H => m = xs.length - i ∧ i ≤ xs.length ∧ ∃ Wi, Wi.H = H ∧ Stp ε W2 Wi ∧ DMut K Wi D (kfill (((xs.take i).filter p).map f)), ⟨xs.length, rfl, Nat.zero_le _, W2.put D (.dK []) (W2.free hD), rfl, ⟨md_mut (.refl _ _) (W2.free hD) hD, i_put DS g2.i _⟩, DMut.new W2 hD⟩, ?_⟩
    rintro i m H ⟨rfl, hle, Wi, rfl, gi, dm⟩
    have si : S Wi := sg _ _ s2 gi
    by_cases hlt : i < xs.length
    · refine .inr ⟨src.go i Wi si hlt, fun H => i + 1 ≤ xs.length ∧ ∃ Wi, Wi.H = H ∧ Stp ε W2 Wi ∧ DMut K Wi D (kfill (((xs.take (i + 1)).filter p).map f)), fun H' h' => ⟨_, by omega, rfl, h'⟩, fun v H'' hy => ?_⟩
      obtain ⟨x, W3, rfl, g3', hx, r⟩ := src.yld i Wi v H'' si hlt hy
      have g3 : Stp ε Wi W3 := gi.rf.and g3'
      have hm : x ∈ xs := List.mem_of_getElem? hx
      have tkk : xs.take (i + 1) = xs.take i ++ [x] := by rw [List.take_add_one, hx]; rfl
      refine hg x v W3 _ _ r fun σ2 hp => ⟨hw x σ2 W3 hp, ?_⟩
      have G3 := ((g1.trans g2).trans gi).trans g3
      refine ht x W3 σ2 hm G3 hp W3 g3.rf _ fun W4 g4 => ?_
      have G4 := G3.trans g4
      cases hpx : p x with
      | true =>
        rw [if_pos rfl]
        refine hk x W4 σ2 hm hpx G4 (hP x σ2 W3 W4 hp g4) W4 g4.rf _ fun u W5 g5 eu => ?_
        refine he x W5 σ2 hm hpx (G4.trans g5) (hP x σ2 W4 W5 (hP x σ2 W3 W4 hp g4) g5) W5 g5.rf _ fun w W6 g6 rw' => ?_
        have G6 : Stp ε Wi W6 := ((g3.trans g4).trans g5).trans g6
        obtain ⟨ks, e6, r6⟩ := (dm.s G6 DS).ex
        have b6 := (dm.s G6 DS).b
        have ef : kfill (((xs.take (i + 1)).filter p).map f) = kput (kfill (((xs.take i).filter p).map f)) (f x).1 (f x).2 := by
          rw [tkk, List.filter_append, List.map_append]
          simp only [List.filter_cons, hpx, if_pos, List.filter_nil, List.map_cons, List.map_nil]
          unfold kfill
          rw [List.foldl_append]; rfl
        refine ⟨ks, PyKey.key (f x).1, eu, e6, by rw [KReps.len r6]; exact Evl.sz_lt (by have := ln i; omega), hlt, W6.put D _ b6, rfl, ⟨md_mut (gi.trans G6).md b6 hD, i_put DS G6.i _⟩, ⟨b6, _, upd_same, ?_⟩⟩
        rw [ef]
        exact KReps.put r6 (f x).1 rw'
      | false =>
        rw [if_neg Bool.false_ne_true]
        have ef : kfill (((xs.take (i + 1)).filter p).map f) = kfill (((xs.take i).filter p).map f) := by
          rw [tkk, List.filter_append, List.map_append]
          simp only [List.filter_cons, hpx, List.filter_nil, List.map_nil, List.append_nil, if_neg Bool.false_ne_true]
        exact ⟨hlt, W4, rfl, (gi.trans g3).trans g4, by rw [ef]; exact dm.s (g3.trans g4) DS⟩
    · have e : i = xs.length := by omega
      subst e
      rw [List.take_length] at dm
      exact .inl ⟨src.stop _ Wi si (Nat.le_refl _), k D Wi (g2.trans gi) (by
        cases e : W1.H D with
        | none => rfl
        | some o => exact absurd hD (g2.md.d D (by rw [e]; exact fun z => by cases z))) dm⟩
theorem em_dcN {j : Nat} {xs : List α} {p : α → Bool} {f : α → κ × β} (hi : EvI ε K wi σ W xs) (ht : ∀ x v W', x ∈ xs → Stp ε W W' → rep K W'.B v x → EvT ε tt ((wipe σ [j]).set j (some v)) W' (p x))
    (hk : ∀ x v W', x ∈ xs → p x = true → Stp ε W W' → rep K W'.B v x → EvP ε tk ((wipe σ [j]).set j (some v)) W' (fun u _ => u = kV (PyKey.key (f x).1)))
    (he : ∀ x v W', x ∈ xs → p x = true → Stp ε W W' → rep K W'.B v x → EvR ε K tv ((wipe σ [j]).set j (some v)) W' (f x).2) (hl : xs.length < 100000) : EvM ε K (tDc wi (gName j) tt tk tv [j]) σ W (kfill ((xs.filter p).map f)) :=
  em_dc (P := PN K j) hi gt_name (fun x σ2 W' ⟨v, _, e⟩ => by rw [e]; exact wipe1) (fun x W' σ2 hm g ⟨v, r, e⟩ => by rw [e]; exact ht x v W' hm g r) (fun x W' σ2 hm hp g ⟨v, r, e⟩ => by rw [e]; exact hk x v W' hm hp g r)
    (fun x W' σ2 hm hp g ⟨v, r, e⟩ => by rw [e]; exact he x v W' hm hp g r) (fun x σ2 W' W'' ⟨v, r, e⟩ g => ⟨v, rep_s g r, e⟩) hl
end
section
variable {α γ β κ : Type} [Py α] [Py β] [Py γ] [DecidableEq κ] [PyKey κ] {K : Fg} {W : Wd} {σ : SS} {ε : Ef} {te tk tv : TE} {tt : TT} {wi : TI}
theorem em_dcP {i j : Nat} {xs : List (α × γ)} {p : α × γ → Bool} {f : α × γ → κ × β} (hi : EvI ε K wi σ W xs) (ht : ∀ x v u W', x ∈ xs → Stp ε W W' → rep K W'.B v x.1 → rep K W'.B u x.2 → EvT ε tt (((wipe σ [i, j]).set i (some v)).set j (some u)) W' (p x))
    (hk : ∀ x v u W', x ∈ xs → p x = true → Stp ε W W' → rep K W'.B v x.1 → rep K W'.B u x.2 → EvP ε tk (((wipe σ [i, j]).set i (some v)).set j (some u)) W' (fun u _ => u = kV (PyKey.key (f x).1)))
    (he : ∀ x v u W', x ∈ xs → p x = true → Stp ε W W' → rep K W'.B v x.1 → rep K W'.B u x.2 → EvR ε K tv (((wipe σ [i, j]).set i (some v)).set j (some u)) W' (f x).2) (hl : xs.length < 100000) : EvM ε K (tDc wi (gPair K i j) tt tk tv [i, j]) σ W (kfill ((xs.filter p).map f)) :=
  em_dc (P := PP K i j) hi gt_pair (fun x σ2 W' ⟨v, u, _, _, e⟩ => by rw [e]; exact wipe2) (fun x W' σ2 hm g ⟨v, u, r, r', e⟩ => by rw [e]; exact ht x v u W' hm g r r') (fun x W' σ2 hm hp g ⟨v, u, r, r', e⟩ => by rw [e]; exact hk x v u W' hm hp g r r')
    (fun x W' σ2 hm hp g ⟨v, u, r, r', e⟩ => by rw [e]; exact he x v u W' hm hp g r r') (fun x σ2 W' W'' ⟨v, u, r, r', e⟩ g => ⟨v, u, rep_s g r, rep_s g r', e⟩) hl
end
/-! ### a comprehension over a dict that is locked meanwhile -/
section
variable {κ α : Type} [DecidableEq κ] [PyKey κ] [Py α] {K : Fg} {W : Wd} {σ : SS} {t : TE}
/-- locked, and free again behind it -/
theorem em_lock {d : Addr} {ks : List (Key × V)} {kv : List (κ × α)} (hd : W.H d = some (.dK ks)) (h : ∀ WL, Lk W WL d ks → WL.B d = W.B d → EvM pur K t σ WL kv) : EvM pur K (tLockE t) σ W kv := fun W1 g1' Q k => by
  have g1 := g1'.pure
  have hd1 := g1.h _ _ hd
  have hnt : Nt W.H d := .k hd
  refine ⟨d, _, hd1, trivial, fun od => ?_⟩
  have sub : Ext W1.B (upd W1.H d (.frz od (.dK ks))) := B.Ext.trans W1.sub (B.Ext.lock hd1)
  let WL : Wd := ⟨W1.B, upd W1.H d (.frz od (.dK ks)), sub⟩
  have off : ∀ a, a ≠ d → WL.H a = W1.H a := fun a q => upd_ne q
  refine h WL ⟨g1.b, ⟨od, upd_same⟩, fun a o q e => (off a q).trans (g1.h a o e)⟩ (g1.m d hnt) WL (.start trivial) _ fun p W2 g2' f m => ?_
  have g2 := g2'.pure
  have h2 : W2.H d = some (.frz od (.dK ks)) := g2.h _ _ upd_same
  refine ⟨h2, ?_⟩
  have hB : W2.B d = W1.B d := g2.m d ⟨.frz od (.dK ks), upd_same, fun _ z => by cases z⟩
  have pd : p ≠ d := fun z => by
    have f' : upd W1.H d (.frz od (.dK ks)) p = none := f
    rw [z, upd_same] at f'; cases f'
  have sub3 : Ext W2.B (upd W2.H d (.dK ks)) := fun a o e => by
    by_cases q : a = d
    · subst q
      rw [hB] at e
      rcases W1.sub a o e with h1 | ⟨⟨k', rfl⟩, ob, h1⟩
      · rw [hd1] at h1; cases h1; exact .inl upd_same
      · rw [hd1] at h1; cases h1
    · rw [upd_ne q]; exact W2.sub a o e
  have gr : Grow W1 ⟨W2.B, upd W2.H d (.dK ks), sub3⟩ := .mk g2.b (fun a o e => by
    show upd W2.H d (.dK ks) a = some o
    by_cases q : a = d
    · subst q; rw [hd1] at e; cases e; exact upd_same
    · rw [upd_ne q]; exact g2.h a o ((off a q).trans e)) fun a ha => g2.m a (by
      by_cases q : a = d
      · rw [q]; exact ⟨_, upd_same, fun _ z => by cases z⟩
      · obtain ⟨u, e, hu⟩ := ha
        exact ⟨u, (off a q).trans e, hu⟩)
  obtain ⟨ks2, e2, r2⟩ := m.ex
  exact k p _ (.of gr) ((off p pd).symm.trans f) ⟨m.b, ks2, (upd_ne pd).trans e2, r2⟩
end
end B
/-! B: repr of a list that holds dicts -/
namespace B
open PySem PySem.Spec PyProof.Rows L2
open PySem.W (Tup T3 T4 Datum DatumOrd)
def keyD : Key → PyData
  | .inl i => .int i
  | .inr x => .str x
/-- data; a dict of numbers, by the heap -/
inductive DpD (K : Fg) (H : Hp) : V → PyData → Prop
  | pl {v : V} {d : PyData} : Dp K H v d → d.hasDict = false → DpD K H v d
  | dc {a : Addr} {kv : List (Key × Int)} : Rd H a (.dK (kv.map fun q => (q.1, V.int q.2))) → DpD K H (.ref a) (.dict (kv.map fun q => (keyD q.1, PyData.int q.2)))
inductive DpDs (K : Fg) (H : Hp) : List V → List PyData → Prop
  | nil : DpDs K H [] []
  | cons {v : V} {d : PyData} {vs : List V} {ds : List PyData} : DpD K H v d → DpDs K H vs ds → DpDs K H (v :: vs) (d :: ds)
section
variable {X : Cx} {pins : List (Addr × Obj)} {σ : L2.St} {H : Hp} {s : Shared}
theorem flat_keys {P : Program} {w : World} {h : Heap} {es : List DictEntry} : ∀ {kv : List (Key × Int)} {vs : List (Key × Value)}, KV (kv.map fun q => (q.1, V.int q.2)) vs → Pairs (mixKind P w) es vs → ReadsAll h (es.map (·.key)) ((kv.map fun q => (keyD q.1, PyData.int q.2)).map (·.1)) [] ∧ ReadsAll h (es.map (·.val)) ((kv.map fun q => (keyD q.1, PyData.int q.2)).map (·.2)) [] := by
  intro kv vs hv hp
  induction hp generalizing kv with
  | nil =>
    cases kv with
    | nil => exact ⟨.nil, .nil⟩
    | cons q kv => cases hv
  | @cons e p es vs hk he _ ih =>
    cases kv with
    | nil => cases hv
    | cons q kv =>
      cases hv with
      | cons h1 h2 =>
        obtain ⟨i1, i2⟩ := ih h2
        obtain ⟨e1, e2⟩ := h1
        have e1 : q.1 = p.1 := e1
        obtain ⟨t, e2⟩ : ∃ t, p.2 = .int q.2 t := e2
        have kd : Reads h e.key (keyD q.1) [] := by
          rw [← e1] at hk
          have hk : keyIs q.1 e.key = true := hk
          rcases keyIs_shape hk with ⟨i, u, e3, e4⟩ | ⟨x, u, e3, e4⟩
          · rw [e3, e4]; exact .int i u
          · rw [e3, e4]; exact .str x u
        have vd : Reads h e.val (PyData.int q.2) [] := by rw [he, e2]; exact .int _ _
        exact ⟨.cons (as := []) (bs := []) kd i1, .cons (as := []) (bs := []) vd i2⟩
theorem DpD.reads (I : Inv X pins σ H s) {v : V} {u : Value} {d : PyData} (h : DpD X.K H v d) (r : RelV v u) : ∃ as, Reads s.heap u d as ∧ (d.hasDict = true → sysModules ∉ as) := by
  cases h with
  | pl hd hn =>
    obtain ⟨as, rd⟩ := Dp.reads I _ _ _ hd r
    exact ⟨as, rd, fun z => by rw [hn] at z; cases z⟩
  | @dc a kv e =>
    obtain rfl : u = Value.ref _ := r
    obtain ⟨_, hsys, vs, kvr, o, es, ep, ho, ex, hd, _, pr, _⟩ := dk_rd I.hok e
    obtain ⟨k1, k2⟩ := flat_keys (h := s.heap) kvr pr
    refine ⟨_, Reads.dict ho ex.1 hd k1 k2, fun _ hm => ?_⟩
    have : sysModules = a := by simpa using hm
    rw [← this] at hsys
    simp at hsys
theorem DpD.repr (I : Inv X pins σ H s) {v : V} {u : Value} {d : PyData} (h : DpD X.K H v d) (r : RelV v u) (hs : d.showable = true) (hz : d.shown.length ≤ sizeLine) : ∃ as, Reads s.heap u d as ∧ ∃ bs, ReadAtMost s.heap d.depth bs ∧ ReprK X.prog X.w bs s.heap d.depth u d.shown := by
  obtain ⟨as, rd, hn⟩ := h.reads I r
  exact ⟨as, rd, ReprK.of_reads rd hs hn hz⟩
theorem DpDs.repr (I : Inv X pins σ H s) : ∀ {vs : List V} {us : List Value} {ds : List PyData}, DpDs X.K H vs ds → Vals vs us → PyData.showableAll ds = true → (∀ t ∈ PyData.shownAll ds, t.length ≤ sizeLine) →
    (∃ as, ReadsAll s.heap us ds as) ∧ ∃ bs, ReadAtMost s.heap (PyData.depthAll ds) bs ∧ ReprAllK X.prog X.w bs s.heap (PyData.depthAll ds) us (PyData.shownAll ds)
  | _, _, _, .nil, .nil, _, _ => ⟨⟨_, .nil⟩, [], (fun _ h => nomatch h), by simp only [PyData.shownAll]; exact .nil⟩
  | _, _, _, .cons (d := d) (ds := ds) h hs', .cons r rs, hs, hz => by
    have hs2 : d.showable = true ∧ PyData.showableAll ds = true := by simpa [PyData.showableAll] using hs
    obtain ⟨as, rd, b1, hb1, k1⟩ := h.repr I r hs2.1 (hz _ (by simp only [PyData.shownAll]; exact List.mem_cons_self ..))
    obtain ⟨⟨as2, rds⟩, b2, hb2, k2⟩ := DpDs.repr I hs' rs hs2.2 fun t ht => hz t (by simp only [PyData.shownAll]; exact List.mem_cons_of_mem _ ht)
    refine ⟨⟨_, .cons rd rds⟩, b1 ++ b2, fun b hm => ?_, ?_⟩
    · simp only [PyData.depthAll]
      rcases List.mem_append.mp hm with hm | hm
      · obtain ⟨d', as', r', hd'⟩ := hb1 b hm
        exact ⟨d', as', r', Nat.le_trans hd' (Nat.le_max_left _ _)⟩
      · obtain ⟨d', as', r', hd'⟩ := hb2 b hm
        exact ⟨d', as', r', Nat.le_trans hd' (Nat.le_max_right _ _)⟩
    · simp only [PyData.depthAll, PyData.shownAll]
      exact .cons ((k1.more fun b hb => List.mem_append_left _ hb).level_le (Nat.le_max_left _ _)) (k2.more_le (fun b hb => List.mem_append_right _ hb) (Nat.le_max_right _ _))
end
section
variable {prog : Program} {w : World} {A : Around} {E : Value → Shared → Prop} {s : Shared}
theorem repr_listD {a : Addr} {o : Obj} {vs : List Value} {n : _} {d : List PyData} {az bs : List Addr} {Q : Value → Shared → Prop} (h1 : s.heap.get? a = some o) (h2 : o.cls = .type "list") (h3 : o.data = .seq vs.toArray n) (r : ReadsAll s.heap vs d az) (hb : ReadAtMost s.heap (PyData.depthAll d) bs) (hk : ReprAllK prog w bs s.heap (PyData.depthAll d) vs (PyData.shownAll d))
    (hg : A.guards = some []) (hu : A.units + 60 < cLine) (h40 : PyData.depthAll d ≤ 40) (hz : (listText (PyData.shownAll d)).length ≤ sizeLine)
    (hQ : ∀ h' u tk, (∀ b o, s.heap.get? b = some o → h'.get? b = some o) → Q (.str (listText (PyData.shownAll d)) u) { s with heap := h', toks := tk }) : wpAny (model prog w) A (call (.builtin "repr") [.ref a]) Q E s := by
  have r0 : Reads s.heap (.ref a) (.list d) (a :: az) := .list h1 h2 h3 (by simpa using r)
  have hna : a ∉ bs := not_mem_of_deeper r0 (by simp only [PyData.depth]; omega) hb
  have hTy : s.TypeIs (.ref a) "list" := ⟨o, h1, h2⟩
  refine Calls.call_function_entry F.kind_repr F.plain_repr F.entry_repr (F.args_repr1 _) ?_
  unfold Builtin.«repr»
  refine wpAny_bind (m := oneArg "repr" _) (wpAny_pure ?_)
  refine wpAny_bind (wpAny_cRoomFor (by show A.units + 1 < _; omega) ?_)
  refine wpAny_bind (wpAny_specialOf (name := Str.ofString "__repr__") hTy F.slot_list_repr.lookup ?_)
  have fin : ∀ h' u tk, (∀ b o, s.heap.get? b = some o → h'.get? b = some o) → wpAny (model prog w) A.in1 (isInstance (.str (listText (PyData.shownAll d)) u) (.type "str") >>= fun b => if b = true then ret (.str (listText (PyData.shownAll d)) u) else rule "repr.not-str" >>= fun _ => typeNameOf (.str (listText (PyData.shownAll d)) u) >>= fun nm => raiseError "TypeError" s!"__repr__ returned non-string (type {nm})")
      (fun fin s' => ∃ v, fin = .done (.ret v) ∧ Q v s') E { s with heap := h', toks := tk } := fun h' u tk hk =>
    wpAny_bind (wpAny_isInstance (T := "str") (b := true) rfl isSubtype_str_str (wpAny_pure ⟨_, rfl, hQ h' u tk hk⟩))
  refine wpAny_bind (m := callSpecialIfBound? (.ref a) (Str.ofString "__repr__")) (wpAny_callSpecialIfBound?_slot (name := Str.ofString "__repr__") hTy F.slot_list_repr ?_)
  cases vs with
  | nil =>
    cases r
    exact call_list_repr_empty hTy h1 h3 (fin s.heap _ _ fun _ _ e => e)
  | cons x l =>
    exact call_list_reprK h1 h2 h3 hna (by simpa using hk.length_eq) (fun i y e => hk.item i y (by simpa using e)) (show A.in1.guards = some [] from hg) (fun b _ => Clear.nil b) (by show A.units + 1 + _ < _; omega) (fun _ _ e => e) (fun h' u tk hk' => fin h' u tk hk') hz
end
def rReprD (K : Fg) : List V → Hp → VK → Prop := fun vs H Q => ∃ (a : Addr) (xs : List V) (d : List PyData), vs = [.ref a] ∧ SqL K H a xs ∧ DpDs K H xs d ∧ PyData.showableAll d = true ∧ PyData.depthAll d ≤ 40 ∧ (listText (PyData.shownAll d)).length ≤ sizeLine ∧ Q (.str (listText (PyData.shownAll d))) H
theorem cr_reprD {X : Cx} (hg : X.A.guards = some []) (hu : X.A.units + 64 < cLine) : CallR X (.builtin "repr") (rReprD X.K) := by
  intro pins s σ H xs us Q I r h
  obtain ⟨a, ys, d, rfl, hl, hd, h1, h3, h4, q⟩ := h
  obtain ⟨u, rfl, ru⟩ := vals1 r
  obtain rfl : u = Value.ref a := ru
  obtain ⟨its, rv, ⟨o, n, ho, hc, _, hdat⟩, _⟩ := I.list hl
  obtain ⟨⟨az, ra⟩, bs, hb, hk⟩ := hd.repr I rv h1 fun t ht => Nat.le_trans (listText_mem_le ht) h4
  exact repr_listD ho hc hdat ra hb hk hg (by omega) h3 h4 fun h' u tk hk => ⟨.str _, H, I.kept hk, ⟨_, rfl⟩, q⟩
mutual
theorem dp_ext {K : Fg} {H H' : Hp} (e : Ext H H') : ∀ (d : PyData) (v : V), Dp K H v d → Dp K H' v d
  | .none, _, h => by cases h; exact .non
  | .bool b, _, h => by cases h; exact .bl b
  | .int i, _, h => by cases h; exact .int i
  | .str x, _, h => by cases h; exact .str x
  | .list ds, _, h => by
    cases h with
    | lst hs ha => exact .lst (e.l hs) (dps_ext e ds _ ha)
  | .tuple ds, _, h => by
    cases h with
    | tup hs ha => exact .tup (e.t hs) (dps_ext e ds _ ha)
  | .dict _, _, h => by cases h
theorem dps_ext {K : Fg} {H H' : Hp} (e : Ext H H') : ∀ (ds : List PyData) (vs : List V), DpAll K H vs ds → DpAll K H' vs ds
  | [], _, h => by cases h; exact .nil
  | d :: ds, _, h => by
    cases h with
    | cons h1 h2 => exact .cons (dp_ext e d _ h1) (dps_ext e ds _ h2)
end
def rReprV (K : Fg) : List V → Hp → VK → Prop := fun vs H Q => ∃ (v : V) (d : PyData), vs = [v] ∧ DpD K H v d ∧ d.showable = true ∧ d.depth ≤ 40 ∧ d.shown.length ≤ sizeLine ∧ Q (.str d.shown) H
theorem cr_reprV {X : Cx} (hg : X.A.guards = some []) (hu : X.A.units + 64 < cLine) : CallR X (.builtin "repr") (rReprV X.K) := by
  intro pins s σ H xs us Q I r h
  obtain ⟨v, d, rfl, hd, h1, h3, h4, q⟩ := h
  obtain ⟨u, rfl, ru⟩ := vals1 r
  obtain ⟨as, rd, hn⟩ := hd.reads I ru
  have fin : ∀ tk u, EP X pins σ Q (.str d.shown u) { s with toks := tk } := fun tk u => ⟨.str _, H, I.kept (t' := tk) fun _ _ z => z, ⟨_, rfl⟩, q⟩
  cases rd with
  | none => exact P.repr_of_none (fin _ _)
  | bool b => exact P.repr_of_bool (fin _ _)
  | int i t => exact P.repr_of_int (by simpa [PyData.showable] using h1) (fin _ _)
  | str x t => exact P.repr_of_str (fin _ _) h4
  | list a1 a2 a3 a4 => exact repr_of_reads' (.list a1 a2 a3 a4) h1 hn hg (by omega) (fun _ _ e => e) (fun h' u tk hk => ⟨.str _, H, I.kept hk, ⟨_, rfl⟩, q⟩) h4
  | tuple a1 a2 a3 a4 => exact repr_of_reads' (.tuple a1 a2 a3 a4) h1 hn hg (by omega) (fun _ _ e => e) (fun h' u tk hk => ⟨.str _, H, I.kept hk, ⟨_, rfl⟩, q⟩) h4
  | dict a1 a2 a3 a4 a5 => exact repr_of_reads' (.dict a1 a2 a3 a4 a5) h1 hn hg (by omega) (fun _ _ e => e) (fun h' u tk hk => ⟨.str _, H, I.kept hk, ⟨_, rfl⟩, q⟩) h4
/-- data of which some are new dicts -/
inductive DpW (K : Fg) (W : Wd) : V → PyData → Prop
  | pl {v : V} {d : PyData} : Dp K W.B v d → d.hasDict = false → DpW K W v d
  | st {c : Addr} {kv : List (Str × Int)} : DMut K W c kv → DpW K W (.ref c) (.dict (kv.map fun q => (PyData.str q.1, PyData.int q.2)))
  | it {c : Addr} {kv : List (Int × Int)} : DMut K W c kv → DpW K W (.ref c) (.dict (kv.map fun q => (PyData.int q.1, PyData.int q.2)))
section
variable {K : Fg} {W W' : Wd} {σ : SS} {te : TE} {ta : TA}
theorem kreps_flat {κ : Type} [DecidableEq κ] [PyKey κ] {B : Hp} : ∀ {ks : List (Key × V)} {kv : List (κ × Int)}, KReps K B ks kv → ks = kv.map fun q => (PyKey.key q.1, V.int q.2)
  | [], [], .nil => rfl
  | p :: ks, q :: kv, .cons h r => by
    obtain ⟨e1, e2⟩ := h
    have e2 : p.2 = V.int q.2 := e2
    rw [List.map_cons, ← kreps_flat r, ← e1, ← e2]
theorem DpW.gr {v : V} {d : PyData} (h : DpW K W v d) (g : Grow W W') : DpW K W' v d := by
  cases h with
  | pl h n => exact .pl (dp_ext (exExt g.b) _ _ h) n
  | st m => exact .st (m.gr g)
  | it m => exact .it (m.gr g)
theorem DpW.d {v : V} {d : PyData} (h : DpW K W v d) : DpD K W.H v d := by
  cases h with
  | pl h n => exact .pl (dp_ext W.sub _ _ h) n
  | @st c kv m =>
    obtain ⟨ks, e, r⟩ := m.ex
    rw [kreps_flat r] at e
    have := DpD.dc (K := K) (H := W.H) (a := c) (kv := kv.map fun q => ((Sum.inr q.1 : Key), q.2)) (.inl (by rw [e, List.map_map]; rfl))
    rw [List.map_map] at this
    exact this
  | @it c kv m =>
    obtain ⟨ks, e, r⟩ := m.ex
    rw [kreps_flat r] at e
    have := DpD.dc (K := K) (H := W.H) (a := c) (kv := kv.map fun q => ((Sum.inl q.1 : Key), q.2)) (.inl (by rw [e, List.map_map]; rfl))
    rw [List.map_map] at this
    exact this
/-- a row of such data is made -/
def EvDs (K : Fg) (ta : TA) (σ : SS) (W : Wd) (ds : List PyData) : Prop := ∀ W1, Stp pur W W1 → ∀ Q : List V → Hp → Prop, (∀ us W2, Stp pur W1 W2 → (∀ W3, Grow W2 W3 → DpDs K W3.H us ds) → us.length = ds.length → Q us W2.H) → ta σ W1.H Q
theorem eds_nil : EvDs K tNil σ W [] := fun W1 g1 Q k => k [] W1 g1.rf (fun _ _ => .nil) rfl
theorem eds_cons {d : PyData} {ds : List PyData} (h : EvP pur te σ W (fun v W' => DpW K W' v d)) (hr : EvDs K ta σ W ds) : EvDs K (tCons te ta) σ W (d :: ds) := fun W1 g1 Q k =>
  h W1 g1 _ fun v W2 g2 p => hr W2 (g1.trans g2) _ fun us W3 g3 ps l => k (v :: us) W3 (g2.trans g3) (fun W4 g4 => .cons (p.gr (g3.pure.trans g4)).d (ps W4 g4)) (by rw [List.length_cons, l, List.length_cons])
theorem ed_pl {α : Type} [DecidableEq α] [Datum α] [Py α] [PyD α] {x : α} (h : EvR pur K te σ W x) (hn : (Datum.toD x).hasDict = false) : EvP pur te σ W (fun v W' => DpW K W' v (Datum.toD x)) := fun W1 g1 Q k => h W1 g1 Q fun v W2 g2 r => k v W2 g2 (.pl (PyD.dp r) hn)
theorem ed_st {kv : List (Str × Int)} (h : EvM pur K te σ W kv) : EvP pur te σ W (fun v W' => DpW K W' v (.dict (kv.map fun q => (PyData.str q.1, PyData.int q.2)))) := fun W1 g1 Q k => h W1 g1 Q fun p W2 g2 _ m => k _ W2 g2 (.st m)
theorem ed_it {kv : List (Int × Int)} (h : EvM pur K te σ W kv) : EvP pur te σ W (fun v W' => DpW K W' v (.dict (kv.map fun q => (PyData.int q.1, PyData.int q.2)))) := fun W1 g1 Q k => h W1 g1 Q fun p W2 g2 _ m => k _ W2 g2 (.it m)
/-- repr([..]), dicts in it -/
theorem ev_reprD {ds : List PyData} (h : EvDs K ta σ W ds) (hs : PyData.showableAll ds = true) (hd : PyData.depthAll ds ≤ 40) (hl : (listText (PyData.shownAll ds)).length ≤ 100000) (hn : ds.length ≤ 100000) : EvR pur K (tCB (rReprD K) (tCons (tLst ta) tNil)) σ W (listText (PyData.shownAll ds)) := fun W1 g1 Q k => h W1 g1 _ fun us W2 g2 ps l =>
  ⟨by rw [l]; exact Evl.sz_of hn, fun p hp => by
    let W3 := W2.add p (.lst us)
    have g3 : Grow W2 W3 := W2.grow_add hp
    exact ⟨p, us, ds, rfl, SqL.of upd_same, ps W3 g3, hs, hd, Evl.sz_of hl, k _ W3 (g2.trans (.of g3)) rfl⟩⟩
end
end B
/-! B: classes of refusals, told by the top's names -/
namespace B
open PySem PySem.Spec PyProof.Rows L2
def cErr (K : Fg) (x : Str) : Addr := match PySem.W.nsIn K mainGlobals x with
  | some (some (.ref C)) => C
  | _ => 0
theorem cErr_of {K : Fg} {x : Str} {C : Addr} (h : PySem.W.nsIn K mainGlobals x = some (some (.ref C))) : cErr K x = C := by
  unfold cErr
  rw [h]
/-- str(n) -/
abbrev rStrI : List V → Hp → VK → Prop := fun xs H Q => ∃ i : Int, xs = [.int i] ∧ i.natAbs.log2 < 1920 ∧ Q (.str (toString i)) H
/-- a call in a def that lets out what it gets -/
theorem passE {X : Cx} {E : XK} (hs : X.stack = X.env :: X.outer) (hf : X.env.frame = some X.env.locals) (hex : X.ex = []) {E₁ : Value → Shared → Prop}
    (hx : X.xe = fun e s' => wpAny (model X.prog X.w) X.A (leaving X.env e) (fun _ s'' => L2.CX X.prog X.w X.outer X.H_0 X.s_0 E e s'') E₁ s') : Passes (L2.CX X.prog X.w) X E :=
  passes_call (takes_of hs hf hex hx) fun _ _ _ _ h => h
end B
/-! B: data of any kind -/
namespace B
open PySem PySem.Spec PyProof.Rows L2
open PySem.W (Tup T3 T4 Datum DatumOrd)
mutual
theorem nd_plain : ∀ d : PyData, d.plain = true → d.hasDict = false
  | .none, _ => rfl
  | .bool _, _ => rfl
  | .int _, _ => rfl
  | .str _, _ => rfl
  | .list xs, h => by simp only [PyData.plain] at h; simp only [PyData.hasDict]; exact nd_plains xs h
  | .tuple xs, h => by simp only [PyData.plain] at h; simp only [PyData.hasDict]; exact nd_plains xs h
  | .dict _, h => by simp [PyData.plain] at h
theorem nd_plains : ∀ ds : List PyData, PyData.plainAll ds = true → PyData.hasDictAll ds = false
  | [], _ => by simp [PyData.hasDictAll]
  | d :: ds, h => by
    simp only [PyData.plainAll, Bool.and_eq_true] at h
    simp only [PyData.hasDictAll, nd_plain d h.1, nd_plains ds h.2, Bool.or_self]
end
theorem dpd_ext {K : Fg} {H H' : Hp} (e : Ext H H') {d : PyData} {v : V} (h : DpD K H v d) : DpD K H' v d := by
  cases h with
  | pl h n => exact .pl (dp_ext e _ _ h) n
  | dc h => exact .dc (e.rd h)
instance : Py PyData := ⟨fun K H v d => DpD K H v d, fun e h => dpd_ext e h⟩
section
variable {α : Type} [DecidableEq α] [Datum α] [Py α] [PyD α] {K : Fg} {W : Wd} {σ : SS} {ε : Ef} {te : TE}
theorem rep_dt {H : Hp} {v : V} {x : α} (h : rep K H v x) : rep K H v (Datum.toD x) := .pl (PyD.dp h) (nd_plain _ (Datum.plain x))
theorem ev_dt {x : α} (h : EvR ε K te σ W x) : EvR ε K te σ W (Datum.toD x) := fun W1 g1 Q k => h W1 g1 Q fun v W2 g2 r => k v W2 g2 (rep_dt r)
theorem ev_dd (h : EvD ε K te σ W (⟨[]⟩ : Dict Int Int)) : EvR ε K te σ W (PyData.dict []) := fun W1 g1 Q k => h.rep W1 g1 Q fun v W2 g2 ⟨a, ks, e, r, kr⟩ => k v W2 g2 (by
  cases kr
  subst e
  exact DpD.dc (kv := []) r)
end
def dcls : PyData → String
  | .int _ => "int" | .bool _ => "bool" | .none => "NoneType" | .str _ => "str" | .tuple _ => "tuple" | .list _ => "list" | .dict _ => "dict"
theorem ty_sql {K : Fg} {H : Hp} {a : Addr} {xs : List V} (h : SqL K H a xs) : TyX K H (.ref a) (.type "list") := by
  rcases h with (h | ⟨o, h⟩) | ⟨o, its, n, h1, h2, _⟩
  · exact .base (.lst h)
  · exact .base (.frz h)
  · exact .kList h1 h2
theorem ty_sqt {K : Fg} {H : Hp} {a : Addr} {xs : List V} (h : SqT K H a xs) : TyX K H (.ref a) (.type "tuple") := by
  rcases h with (h | ⟨o, h⟩) | ⟨o, its, n, h1, h2, _⟩
  · exact .base (.tup h)
  · exact .fTuple h
  · exact .kTuple h1 h2
theorem ty_dt {K : Fg} (W1 : Wd) (v : V) (d : PyData) (h : rep K W1.B v d) : TyX K W1.H v (.type (dcls d)) := by
  have h2 : DpD K W1.H v d := dpd_ext W1.sub h
  clear h
  cases h2 with
  | pl h _ =>
    cases h with
    | non => exact .base .non
    | bl b => exact .base (.bl b)
    | int i => exact .base (.int i)
    | str s => exact .base (.str s)
    | lst hs _ => exact ty_sql hs
    | tup hs _ => exact ty_sqt hs
  | dc h =>
    rcases h with z | ⟨o, z⟩
    · exact .base (.dK z)
    · exact .fDict z
theorem rc_isD {K : Fg} {c : String} {d : PyData} {b : Bool} (hk : kitB (dcls d) c = some b) : RC2 K (rIsi K) d (Raw.mk (.ty c)) b := rc_isi (fun W1 v h => ty_dt W1 v d h) hk
/-- that a thing is of no such kind -/
def KdNo (K : Fg) (c : String) (v : V) (W : Wd) : Prop := ∃ a : String, (∀ W', Grow W W' → TyX K W'.H v (.type a)) ∧ kitB a c = some false
theorem KdNo.gr {K : Fg} {c : String} {v : V} {W W' : Wd} (h : KdNo K c v W) (g : Grow W W') : KdNo K c v W' := by
  obtain ⟨a, h1, h2⟩ := h
  exact ⟨a, fun W2 g2 => h1 W2 (g.trans g2), h2⟩
theorem kdno_dt {K : Fg} {c : String} {v : V} {W : Wd} {d : PyData} (h : rep K W.B v d) (hk : kitB (dcls d) c = some false) : KdNo K c v W := ⟨_, fun W' g => ty_dt W' v d (rep_g g h), hk⟩
theorem ev_kdNo {K : Fg} {c : String} {v : V} {W : Wd} {σ : SS} {te : TE} (h : EvR pur K te σ W (Raw.mk v)) (n : KdNo K c v W) : EvR pur K (tCB (rIsi K) (tCons te (tCons (tC (.ty c)) tNil))) σ W false := fun W1 g1 Q k => h W1 g1 _ fun u W2 g2 e => by
  obtain ⟨a, h1, h2⟩ := n
  rw [show u = v from e]
  exact ⟨v, .ty c, .type a, .type c, false, rfl, .ty c, h1 W2 (g1.trans g2).pure, kit_ty h2, k _ W2 g2 rfl⟩
/-- that a thing is no instance of an own class -/
def KdOf (K : Fg) (C : Addr) (v : V) (W : Wd) : Prop := ∃ t : Value, (∀ W', Grow W W' → TyX K W'.H v t) ∧ PySem.W.kitOne K t (.ref C) = some false
theorem KdOf.gr {K : Fg} {C : Addr} {v : V} {W W' : Wd} (h : KdOf K C v W) (g : Grow W W') : KdOf K C v W' := by
  obtain ⟨t, h1, h2⟩ := h
  exact ⟨t, fun W2 g2 => h1 W2 (g.trans g2), h2⟩
theorem ev_kdOf {K : Fg} {C : Addr} {W : Wd} {σ : SS} {te : TE} {v : V} (h : EvR pur K te σ W (Raw.mk v)) (n : KdOf K C v W) : EvR pur K (tCB (rIsi K) (tCons te (tCons (tC (.ref C)) tNil))) σ W false := fun W1 g1 Q k => h W1 g1 _ fun u W2 g2 e => by
  obtain ⟨t, h1, h2⟩ := n
  rw [show u = v from e]
  exact ⟨v, .ref C, t, .ref C, false, rfl, .own C, h1 W2 (g1.trans g2).pure, h2, k _ W2 g2 rfl⟩
end B
/-! the draws of the laws: begun, draw, pick -/
namespace B
open PySem L2
open Evl (Ex)
/-- the state of draws: the list at p holds the cells' list (at c), the place, the mixed number -/
structure St (W : Wd) (p c : Addr) : Prop where
  bp : W.B p = none
  bc : W.B c = none
  ne : p ≠ c
  ex : ∃ (a m : Int) (cs : List Int), W.H p = some (.lst [.ref c, .int a, .int m]) ∧ W.H c = some (.lst (cs.map V.int)) ∧ cs ≠ [] ∧ (∀ x ∈ cs, 0 ≤ x) ∧ 0 ≤ a ∧ 0 ≤ m ∧ m < 2147483647
theorem St.keep {W W' : Wd} {p c : Addr} (s : St W p c) (hp : W'.H p = W.H p) (hc : W'.H c = W.H c) (bp : W'.B p = W.B p) (bc : W'.B c = W.B c) : St W' p c :=
  ⟨bp.trans s.bp, bc.trans s.bc, s.ne, by
    obtain ⟨a, m, cs, h1, h2, r⟩ := s.ex
    exact ⟨a, m, cs, hp.trans h1, hc.trans h2, r⟩⟩
theorem St.dom {W : Wd} {p c : Addr} (s : St W p c) : W.H p ≠ none ∧ W.H c ≠ none := by
  obtain ⟨a, m, cs, h1, h2, _⟩ := s.ex
  exact ⟨by rw [h1]; exact (fun z => by cases z), by rw [h2]; exact (fun z => by cases z)⟩
theorem St.nt {W : Wd} {p c : Addr} (s : St W p c) : Nt W.H p ∧ Nt W.H c := by
  obtain ⟨a, m, cs, h1, h2, _⟩ := s.ex
  exact ⟨.l h1, .l h2⟩
theorem St.off {S : List Addr} {W W' : Wd} {p c : Addr} (s : St W p c) (g : Md S W W') (hp : p ∉ S) (hc : c ∉ S) : St W' p c := by
  obtain ⟨a, m, cs, h1, h2, r⟩ := id s.ex
  exact s.keep ((g.o p _ hp h1).trans h1.symm) ((g.o c _ hc h2).trans h2.symm) (g.m p s.nt.1) (g.m c s.nt.2)
theorem St.g {W W' : Wd} {p c : Addr} (s : St W p c) (g : Grow W W') : St W' p c := s.off g (by simp) (by simp)
/-- the effect of drawing -/
def drw (p c : Addr) : Ef := ⟨[p, c], fun W => St W p c, fun W a s h => by
    have : a = p ∨ a = c := by simpa using h
    rcases this with e | e <;> rw [e]
    · exact s.nt.1
    · exact s.nt.2,
  fun W W' b h s => by
    have h1 := h p (by simp) s.nt.1
    have h2 := h c (by simp) s.nt.2
    exact s.keep h1.1 h2.1 h1.2 h2.2⟩

def sp__law_begun (K : Fg) : Sp := fun vs H Q _ => ∃ (W : Wd) (a : Addr) (ns : List Int), W.H = H ∧ vs = [.ref a] ∧ SqL K W.B a (ns.map V.int) ∧ ns.length ≤ 63 ∧
  ∀ p c W', Grow W W' → St W' p c → W.H p = none → W.H c = none → Q (.ref p) W'.H
theorem len__law_begun {K : Fg} {vs : List V} {H : Hp} {Q : VK} {E : XK} (h : sp__law_begun K vs H Q E) : vs.length = ["_law_script"].length := by
  obtain ⟨W, a, ns, _, rfl, _⟩ := h
  rfl
/-- _law_begun: the slots 0 _law_script, 1 _law_cells, 2 _law_cell -/
abbrev n__law_begun : List Str := ["_law_script", "_law_cells", "_law_cell"]
def t__law_begun (K : Fg) : TS := (tSeq (tAsg (tLc (iList K (tVar 0)) (gName 2) tYes (tCB rAbs (tCons (tVar 2) tNil)) [2]) (gName 1))
  (tSeq (tIfS (tTest (tOp (rEqT K false) (tVar 1) (tLst tNil))) (tAsg (tLst (tCons (tC (.int 1)) tNil)) (gName 1)) tNext)
  (tRet (tLst (tCons (tVar 1) (tCons (tC (.int 0)) (tCons (tC (.int 1)) tNil)))))))
def sp__law_draw (K : Fg) : Sp := fun vs H Q _ => ∃ (W : Wd) (p c : Addr) (n : Int), W.H = H ∧ vs = [.ref p, .int n] ∧ St W p c ∧ 0 < n ∧ n ≤ 10 ^ 30 ∧
  ∀ r W', 0 ≤ r → r < n → Md [p, c] W W' → St W' p c → Q (.int r) W'.H
theorem len__law_draw {K : Fg} {vs : List V} {H : Hp} {Q : VK} {E : XK} (h : sp__law_draw K vs H Q E) : vs.length = ["_law_state", "_law_many"].length := by
  obtain ⟨W, p, c, n, _, rfl, _⟩ := h
  rfl
/-- _law_draw: the slots 0 _law_state, 1 _law_many, 2 _law_cells, 3 _law_at, 4 _law_cell -/
abbrev n__law_draw : List Str := ["_law_state", "_law_many", "_law_cells", "_law_at", "_law_cell"]
def t__law_draw (K : Fg) : TS := (tSeq (tAsg (tOp (rIxL K) (tVar 0) (tC (.int 0))) (gName 2))
  (tSeq (tAsg (tOp oMod (tOp (rIxL K) (tVar 0) (tC (.int 1))) (tCB (rLen K) (tCons (tVar 2) tNil))) (gName 3))
  (tSeq (tAsg (tOp (rIxL K) (tVar 2) (tVar 3)) (gName 4))
  (tSeq (tIfS (tTest (tOp oGe (tVar 4) (tOp oPow (tC (.int 10)) (tC (.int 18))))) (tSeq (tAsg (tOp oDivW (tVar 4) (tVar 1)) (gSub (tVar 2) (tVar 3) rSetL))
  (tRet (tOp oMod (tVar 4) (tVar 1)))) tNext)
  (tSeq (tAsg (tOp oAdd (tOp (rIxL K) (tVar 0) (tC (.int 1))) (tC (.int 1))) (gSub (tVar 0) (tC (.int 1)) rSetL))
  (tSeq (tAsg (tOp oMod (tOp oAdd (tOp oAdd (tOp oMul (tOp (rIxL K) (tVar 0) (tC (.int 2))) (tC (.int 48271))) (tVar 4)) (tC (.int 12345))) (tC (.int 2147483647))) (gSub (tVar 0) (tC (.int 2)) rSetL))
  (tRet (tOp oMod (tOp oDivW (tOp oMod (tOp oMul (tOp (rIxL K) (tVar 0) (tC (.int 2))) (tOp (rIxL K) (tVar 0) (tC (.int 2)))) (tC (.int 2147483629))) (tC (.int 16))) (tVar 1)))))))))
def sp__law_pick (K : Fg) : Sp := fun vs H Q _ => ∃ (W : Wd) (p c b : Addr) (ys : List V), W.H = H ∧ vs = [.ref p, .ref b] ∧ St W p c ∧ W.B b = some (.lst ys) ∧ ys ≠ [] ∧ ys.length < 100000 ∧
  ∀ y W', y ∈ ys → Md [p, c] W W' → St W' p c → Q y W'.H
theorem len__law_pick {K : Fg} {vs : List V} {H : Hp} {Q : VK} {E : XK} (h : sp__law_pick K vs H Q E) : vs.length = ["_law_state", "_law_some"].length := by
  obtain ⟨W, p, c, b, ys, _, rfl, _⟩ := h
  rfl
/-- _law_pick: the slots 0 _law_state, 1 _law_some -/
abbrev n__law_pick : List Str := ["_law_state", "_law_some"]
def t__law_pick (K : Fg) : TS := (tRet (tOp (rIxL K) (tVar 1) (tCall (sp__law_draw K) [] E0 (tCons (tVar 0) (tCons (tCB (rLen K) (tCons (tVar 1) tNil)) tNil)))))
theorem ev_draw {K : Fg} {W : Wd} {σ : SS} {te : TE} {i : Nat} {p c : Addr} {n : Int} (h1 : σ[i]? = some (some (.ref p))) (hn : EvR (drw p c) K te σ W n) (h0 : 0 < n) (h2 : n ≤ 10 ^ 30) :
    EvP (drw p c) (tCall (sp__law_draw K) [] E0 (tCons (tVar i) (tCons te tNil))) σ W (fun v _ => ∃ r, v = .int r ∧ 0 ≤ r ∧ r < n) := fun W1 g1 Q k =>
  ⟨_, h1, hn W1 g1 _ fun u W2 g2 r => ⟨W2, p, c, n, rfl, by rw [show u = _ from r]; rfl, (show St W2 p c from g2.i), h0, h2, fun r W3 a b g s => k _ W3 (g2.trans ⟨g, s⟩) ⟨r, rfl, a, b⟩⟩⟩
section
variable {K : Fg} {vs : List V} {H : Hp} {Q : VK} {E : XK}
theorem sq_items {a : Addr} {W : Wd} {ns : List Int} (h : SqL K W.B a (ns.map V.int)) {σ : SS} {i : Nat} (hv : σ[i]? = some (some (.ref a))) : EvJ pur K (iList K (tVar i)) σ W ns := fun W1 g1 R k => by
  have s : ∀ W', On W W' → SqL K W'.H a (ns.map V.int) := fun W' o => W'.sub.l ((exExt o.b).l h)
  refine ⟨.ref a, hv, a, rfl, ⟨_, s W1 g1.on⟩, k (Itl K a) W1 g1.rf ⟨fun i W' o hi => ?_, fun i W' v H'' o hi ⟨e1, e2⟩ => ?_, fun i W' o hi => ?_⟩⟩
  · exact ⟨_, V.int ns[i], s W' (g1.on.trans o), by simp [hi]⟩
  · have := e2 _ (s W' (g1.on.trans o))
    rw [List.getElem?_map] at this
    cases q : ns[i]? with
    | none => rw [q] at this; cases this
    | some z =>
      rw [q] at this
      exact ⟨z, W', e1.symm, .refl _ _, rfl, (Option.some.inj this).symm⟩
  · exact ⟨_, s W' (g1.on.trans o), by simpa using hi⟩
theorem rd__law_begun (h : sp__law_begun K vs H Q E) : t__law_begun K { nx := fun _ H' => Q .non H', rt := Q } (start n__law_begun vs) H := by
  obtain ⟨W, a, ns, rfl, rfl, hs, hl, k⟩ := h
  show t__law_begun K _ [some (.ref a), none, none] W.H
  -- cells = [abs(cell) for cell in script]
  refine q_asgN (ε := pur) (xs := ns.map fun n => if n < 0 then -n else n) (en_lcN (sq_items hs rfl).i (fun x v W' hx g r => ev_cb1 (ev_var rfl r) rc_abs) (by omega)) trivial fun p1 vs1 W1 g1 f1 n1 e1 r1 => ?_
  have ei1 : vs1 = (ns.map fun n => if n < 0 then -n else n).map V.int := reps_int r1
  subst ei1
  have fin : ∀ (W2 : Wd) (cs : List Int) (c : Addr), Grow W W2 → W.H c = none → W2.B c = none → W2.H c = some (.lst (cs.map V.int)) → cs ≠ [] → (∀ x ∈ cs, 0 ≤ x) →
      tRet (tLst (tCons (tVar 1) (tCons (tC (V.int 0)) (tCons (tC (V.int 1)) tNil)))) { nx := fun _ H' => Q .non H', rt := Q } [some (.ref a), some (.ref c), none] W2.H := fun W2 cs c g f n e hne hp => by
    refine ⟨_, rfl, Evl.sz_of (by show 3 ≤ 100000; decide), fun p hp' => ?_⟩
    have npc : p ≠ c := fun z => by rw [z, e] at hp'; cases hp'
    exact k p c (W2.put p _ (W2.free hp')) (g.trans (W2.grow_put hp')) ⟨W2.free hp', n, npc, 0, 1, cs, upd_same, (upd_ne npc.symm).trans e, hne, hp, by decide, by decide, by decide⟩ (by
      cases q : W.H p with
      | none => rfl
      | some o => exact absurd hp' (g.d p (by rw [q]; exact fun z => by cases z))) f
  -- if cells == []
  refine ⟨_, rfl, Evl.sz_of (by show 0 ≤ 100000; decide), fun pe hpe => ⟨List Int, inferInstance, inferInstance, ns.map fun n => if n < 0 then -n else n, [], ?_, ?_, by decide, _, rfl, ?_⟩⟩
  · have ne : p1 ≠ pe := fun z => by rw [z, hpe] at e1; cases e1
    exact PyD.dp (α := List Int) ⟨p1, _, rfl, (upd_ne ne).trans e1, int_reps _⟩
  · exact PyD.dp (α := List Int) ⟨pe, _, rfl, upd_same, .nil⟩
  · have g2 : Grow W1 (W1.put pe (.lst []) (W1.free hpe)) := W1.grow_put hpe
    have m2 := g2.mut (by simp) e1 n1
    refine ite2 (fun hb => ?_) (fun hb => ?_)
    · refine ⟨Evl.sz_of (by show 1 ≤ 100000; decide), fun p hp => ?_⟩
      have hp0 : (W1.put pe (.lst []) (W1.free hpe)).H p = none := hp
      refine fin ((W1.put pe (.lst []) (W1.free hpe)).put p (.lst [.int 1]) (Wd.free _ hp0)) [1] p ((g1.pure.trans g2).trans (Wd.grow_put _ hp0)) ?_ (Wd.free (W1.put pe (.lst []) (W1.free hpe)) hp0) upd_same (by simp) (by simp)
      cases q : W.H p with
      | none => rfl
      | some o => exact absurd hp0 ((g1.pure.trans g2).d p (by rw [q]; exact fun z => by cases z))
    · refine fin (W1.put pe (.lst []) (W1.free hpe)) _ p1 (g1.pure.trans g2) f1 m2.2 m2.1 (of_decide_eq_false (by simpa using hb)) ?_
      intro x hx
      simp only [List.mem_map] at hx
      obtain ⟨n, _, rfl⟩ := hx
      split <;> omega
theorem rd__law_draw (h : sp__law_draw K vs H Q E) : t__law_draw K { nx := fun _ H' => Q .non H', rt := Q } (start n__law_draw vs) H := by
  obtain ⟨W, p, c, n, rfl, rfl, s, hn, hn2, k⟩ := h
  obtain ⟨a, m, cs, h1, h2, hne, hpos, ha, hm, hm2⟩ := id s.ex
  have hw : CDivW 0 n := wide_div (b := 101) hn (by omega) (by decide) (by decide)
  have h16 : CDivW 0 16 := wide_div (b := 5) (by decide) (by decide) (by decide) (by decide)
  show t__law_draw K _ [some (.ref p), some (.int n), none, none, none] W.H
  have hlen : 0 < cs.length := List.length_pos_iff.mpr hne
  have hlenI : (0 : Int) < (cs.length : Int) := by omega
  obtain ⟨j, hj, hj2⟩ : ∃ j : Nat, a % (cs.length : Int) = (j : Int) ∧ j < cs.length := by
    have e1 := Int.emod_nonneg a (show (cs.length : Int) ≠ 0 by omega)
    have e2 := Int.emod_lt_of_pos a hlenI
    exact ⟨(a % (cs.length : Int)).toNat, by omega, by omega⟩
  have hx : (cs.map V.int)[j]? = some (V.int cs[j]) := by simp [hj2]
  have hx0 : 0 ≤ cs[j] := hpos _ (List.getElem_mem _)
  -- cells = state[0]; at = state[1] % len(cells); cell = cells[at]
  refine ⟨_, rfl, p, _, 0, _, rfl, rfl, SqL.of h1, rfl, ?_⟩
  refine ⟨_, rfl, p, _, 1, _, rfl, rfl, SqL.of h1, rfl, _, rfl, c, _, rfl, .inl (SqL.of h2), _, _, rfl, rfl, by rw [List.length_map]; exact hlenI, ?_⟩
  simp only [List.length_map, hj, gName]
  refine ⟨_, rfl, _, rfl, c, _, _, _, rfl, rfl, SqL.of h2, atI_nat hx, ?_⟩
  -- if cell >= 10 ** 18
  refine ⟨_, rfl, _, _, rfl, rfl, ⟨by decide, by decide, by decide⟩, _, _, rfl, rfl, _, rfl, ?_⟩
  refine ite2 (fun hc => ?_) (fun hc => ?_)
  · refine ⟨_, rfl, _, rfl, _, _, rfl, rfl, hw, _, rfl, _, rfl, c, _, _, j, rfl, rfl, h2, by rw [List.length_map]; exact Evl.ixN_nat hj2, ?_⟩
    refine ⟨_, rfl, _, rfl, _, _, rfl, rfl, hn, ?_⟩
    refine k _ (W.put c _ s.bc) (Int.emod_nonneg _ (by omega)) (Int.emod_lt_of_pos _ hn) ((md_put s.bc).mono (by intro x; simp; exact fun h => .inr h)) ⟨s.bp, s.bc, s.ne, a, m, cs.set j (cs[j] / n), ?_, ?_, ?_, ?_, ha, hm, hm2⟩
    · show upd W.H c _ p = _
      rw [upd_ne s.ne]; exact h1
    · show upd W.H c _ c = _
      rw [upd_same, List.map_set]
    · intro z
      apply hne
      have : (cs.set j (cs[j] / n)).length = 0 := by rw [z]; rfl
      rw [List.length_set] at this
      exact List.length_eq_zero_iff.mp this
    · intro x hx'
      rcases List.mem_or_eq_of_mem_set hx' with z | z
      · exact hpos x z
      · rw [z]; exact Int.ediv_nonneg hx0 (by omega)
  · refine ⟨_, rfl, p, _, 1, _, rfl, rfl, SqL.of h1, rfl, _, _, rfl, rfl, _, rfl, p, _, _, 1, rfl, rfl, h1, rfl, ?_⟩
    refine ⟨_, rfl, p, _, 2, _, rfl, rfl, SqL.of upd_same, rfl, _, _, rfl, rfl, .inl ⟨by omega, by omega⟩, _, rfl, _, _, rfl, rfl, _, _, rfl, rfl, _, _, rfl, rfl, by show (0 : Int) < 2147483647; decide, _, rfl, p, _, _, 2, rfl, rfl, upd_same, rfl, ?_⟩
    have m0 := Int.emod_nonneg (m * 48271 + cs[j] + 12345) (show (2147483647 : Int) ≠ 0 by decide)
    have m1 := Int.emod_lt_of_pos (m * 48271 + cs[j] + 12345) (show (0 : Int) < 2147483647 by decide)
    refine ⟨_, rfl, p, _, 2, _, rfl, rfl, SqL.of upd_same, rfl, _, rfl, p, _, 2, _, rfl, rfl, SqL.of upd_same, rfl, _, _, rfl, rfl, .inl ⟨by omega, by omega⟩, _, _, rfl, rfl, by show (0 : Int) < 2147483629; decide, _, _, rfl, rfl, h16, _, rfl, _, _, rfl, rfl, hn, ?_⟩
    rw [upd_upd]
    refine k _ (W.put p _ s.bp) (Int.emod_nonneg _ (by omega)) (Int.emod_lt_of_pos _ hn) ((md_put s.bp).mono (by intro x; simp; exact fun h => .inl h)) ⟨s.bp, s.bc, s.ne, a + 1, _, cs, upd_same, ?_, hne, hpos, by omega, m0, m1⟩
    show upd W.H p _ c = _
    rw [upd_ne (Ne.symm s.ne)]; exact h2
theorem rd__law_pick (h : sp__law_pick K vs H Q E) : t__law_pick K { nx := fun _ H' => Q .non H', rt := Q } (start n__law_pick vs) H := by
  obtain ⟨W, p, c, b, ys, rfl, rfl, s, hb, hne, hl, k⟩ := h
  have hlen : 0 < ys.length := List.length_pos_iff.mpr hne
  have hbH : W.H b = some (.lst ys) := W.sub.el hb
  refine ⟨_, rfl, _, rfl, _, rfl, b, _, rfl, .inl (SqL.of hbH), W, p, c, _, rfl, rfl, s, by omega, by omega, fun r W' h0 h1 g s' => ?_⟩
  have hb' : W'.H b = some (.lst ys) := W'.sub.el (g.b _ _ hb)
  obtain ⟨j, rfl⟩ : ∃ j : Nat, r = (j : Int) := ⟨r.toNat, by omega⟩
  have hj : j < ys.length := by omega
  exact ⟨b, ys, j, ys[j], rfl, rfl, SqL.of hb', atI_nat (by simp [hj]), k _ W' (List.getElem_mem _) g s'⟩
end
end B
set_option maxHeartbeats 8000000
/-! k00: errors held as values -/
namespace B
open PySem L2
open PySem.W (Tup T3 T4 Datum DatumOrd)
open Evl (Ex)
def names26 : List Str := ["NoLetters", "NoLetter", "NoFeed", "NoMany", "NoTimes", "NoKeeper", "NoSum", "NoPast", "NoTally", "NoFact", "Barred", "NoWeights", "NoPaper", "NoCount", "TooMany", "NoSize", "NoNumber", "NoRank", "NoTruth", "NoTick", "NoAsking", "NoDeed", "NoName", "Broken", "NoLog", "NoText"]
/-- a row of answers: of the class at C, the i-th, and no other -/
def kitRow (K : PySem.W.Frag) (C : Addr) (as : List Addr) (i : Nat) : Bool := (List.range as.length).all fun j => decide (PySem.W.kitOne K (.ref C) (.ref (as.getD j 0)) = some (decide (j = i)))
theorem kitRow_ks {K : Fg} {names : List Str} {i : Nat} {x : Str} (nd : names.Nodup) (hi : names[i]? = some x) (h : kitRow K (cErr K x) (names.map (cErr K)) i = true) : ∀ n ∈ names, PySem.W.kitOne K (.ref (cErr K x)) (.ref (cErr K n)) = some (decide (n = x)) := fun n hn => by
  obtain ⟨j, hj, e⟩ := List.getElem_of_mem hn
  have h1 := List.all_eq_true.mp h j (List.mem_range.mpr (by rw [List.length_map]; exact hj))
  have h2 := of_decide_eq_true h1
  have e2 : (names.map (cErr K)).getD j 0 = cErr K n := by
    rw [List.getD_eq_getElem?_getD, List.getElem?_map, List.getElem?_eq_getElem hj, e]
    rfl
  rw [e2] at h2
  rw [h2]
  obtain ⟨hi1, hi2⟩ := List.getElem?_eq_some_iff.mp hi
  by_cases z : j = i
  · subst z
    rw [decide_eq_true rfl, decide_eq_true (by rw [← e, hi2])]
  · rw [decide_eq_false z, decide_eq_false]
    intro z2
    apply z
    exact (List.getElem_inj nd).mp (by rw [e, hi2, z2])
/-- a class of refusals: what it is, among all -/
structure Refd (K : Fg) (x : Str) : Prop where
  e : ExcC K (cErr K x)
  v : PySem.W.kitOne K (.ref (cErr K x)) (.type "ValueError") = some true
  l : PySem.W.kitOne K (.ref (cErr K x)) (.ref (cErr K "LeftError")) = some true
  ks : ∀ n ∈ names26, PySem.W.kitOne K (.ref (cErr K x)) (.ref (cErr K n)) = some (decide (n = x))
inductive FsR (K : Fg) (H : Hp) : List (Str × V) → List (Str × PyData) → Prop
  | nil : FsR K H [] []
  | cons {f : Str} {v : V} {d : PyData} {vs : List (Str × V)} {ds : List (Str × PyData)} : rep K H v d → FsR K H vs ds → FsR K H ((f, v) :: vs) ((f, d) :: ds)
theorem FsR.mono {K : Fg} {H H' : Hp} (e : Ext H H') {vs : List (Str × V)} {ds : List (Str × PyData)} (h : FsR K H vs ds) : FsR K H' vs ds := by
  induction h with
  | nil => exact .nil
  | cons r _ ih => exact .cons (Py.mono e r) ih
theorem FsR.get {K : Fg} {H : Hp} {f : Str} {d : PyData} {vs : List (Str × V)} {ds : List (Str × PyData)} (h : FsR K H vs ds) (hd : ds.lookup f = some d) : ∃ v, vs.lookup f = some v ∧ rep K H v d := by
  induction h with
  | nil => cases hd
  | @cons g v d' vs ds r _ ih =>
    rw [List.lookup_cons] at hd ⊢
    cases e : f == g with
    | true => rw [e] at hd; cases hd; exact ⟨v, rfl, r⟩
    | false => rw [e] at hd; exact ih hd
/-- an error: its class, its fields -/
structure EV where
  nm : Str
  fs : List (Str × PyData)
theorem ext_x {H H' : Hp} (e : Ext H H') {a : Addr} {φ : Heap → Prop} (h : H a = some (.ext φ)) : H' a = some (.ext φ) := by
  rcases e a _ h with h | ⟨⟨k, z⟩, _⟩
  · exact h
  · cases z
theorem era_ext {H H' : Hp} (e : Ext H H') {a D : Addr} {fs : List (Str × V)} (h : BV.ErA H a D fs) : BV.ErA H' a D fs := by
  rcases h with ⟨z, h⟩ | ⟨dx, h1, h2⟩
  · exact .inl ⟨z, ext_x e h⟩
  · exact .inr ⟨dx, ext_x e h1, ext_x e h2⟩
instance : Py EV := ⟨fun K H v x => ∃ a vs, v = .ref a ∧ BV.ErA H a (cErr K x.nm) vs ∧ FsR K H vs x.fs, fun e ⟨a, vs, h1, h2, h3⟩ => ⟨a, vs, h1, era_ext e h2, h3.mono e⟩⟩
/-- C.__init__ of one field -/
def spI1 (K : Fg) (c f : Str) : Sp := fun vs H Q _ => ∃ (W : Wd) (a : Addr) (v : V), W.H = H ∧ vs = [.ref a, v] ∧ W.B a = none ∧ W.H a = some (exo a (cErr K c) none) ∧
  ∀ dx W', Md [a] W W' → W'.H a = some (exo a (cErr K c) (some dx)) → W'.B a = none → W'.B dx = some (exd dx [(f, v)]) → dx ≠ a → Q .non W'.H
/-- C.__init__ of two fields -/
def spI2 (K : Fg) (c f g : Str) : Sp := fun vs H Q _ => ∃ (W : Wd) (a : Addr) (v u : V), W.H = H ∧ vs = [.ref a, v, u] ∧ W.B a = none ∧ W.H a = some (exo a (cErr K c) none) ∧
  ∀ dx W', Md [a] W W' → W'.H a = some (exo a (cErr K c) (some dx)) → W'.B a = none → W'.B dx = some (exd dx [(g, u), (f, v)]) → dx ≠ a → Q .non W'.H
def sp_NoLetter___init__ (K : Fg) : Sp := spI1 K "NoLetter" "name"
theorem len_NoLetter___init__ {K : Fg} {vs : List V} {H : Hp} {Q : VK} {E : XK} (h : sp_NoLetter___init__ K vs H Q E) : vs.length = ["self", "name"].length := by
  obtain ⟨W, a, v, _, rfl, _⟩ := h
  rfl
/-- NoLetter.__init__: the slots 0 self, 1 name -/
abbrev n_NoLetter___init__ : List Str := ["self", "name"]
def t_NoLetter___init__ (K : Fg) : TS := (tOst K "name" (tVar 0) (tVar 1))
def sp_NoName___init__ (K : Fg) : Sp := spI1 K "NoName" "name"
theorem len_NoName___init__ {K : Fg} {vs : List V} {H : Hp} {Q : VK} {E : XK} (h : sp_NoName___init__ K vs H Q E) : vs.length = ["self", "name"].length := by
  obtain ⟨W, a, v, _, rfl, _⟩ := h
  rfl
/-- NoName.__init__: the slots 0 self, 1 name -/
abbrev n_NoName___init__ : List Str := ["self", "name"]
def t_NoName___init__ (K : Fg) : TS := (tOst K "name" (tVar 0) (tVar 1))
def sp_NoFeed___init__ (K : Fg) : Sp := spI1 K "NoFeed" "at"
theorem len_NoFeed___init__ {K : Fg} {vs : List V} {H : Hp} {Q : VK} {E : XK} (h : sp_NoFeed___init__ K vs H Q E) : vs.length = ["self", "at"].length := by
  obtain ⟨W, a, v, _, rfl, _⟩ := h
  rfl
/-- NoFeed.__init__: the slots 0 self, 1 at -/
abbrev n_NoFeed___init__ : List Str := ["self", "at"]
def t_NoFeed___init__ (K : Fg) : TS := (tOst K "at" (tVar 0) (tVar 1))
def sp_NoPast___init__ (K : Fg) : Sp := spI1 K "NoPast" "at"
theorem len_NoPast___init__ {K : Fg} {vs : List V} {H : Hp} {Q : VK} {E : XK} (h : sp_NoPast___init__ K vs H Q E) : vs.length = ["self", "at"].length := by
  obtain ⟨W, a, v, _, rfl, _⟩ := h
  rfl
/-- NoPast.__init__: the slots 0 self, 1 at -/
abbrev n_NoPast___init__ : List Str := ["self", "at"]
def t_NoPast___init__ (K : Fg) : TS := (tOst K "at" (tVar 0) (tVar 1))
def sp_NoFact___init__ (K : Fg) : Sp := spI1 K "NoFact" "at"
theorem len_NoFact___init__ {K : Fg} {vs : List V} {H : Hp} {Q : VK} {E : XK} (h : sp_NoFact___init__ K vs H Q E) : vs.length = ["self", "at"].length := by
  obtain ⟨W, a, v, _, rfl, _⟩ := h
  rfl
/-- NoFact.__init__: the slots 0 self, 1 at -/
abbrev n_NoFact___init__ : List Str := ["self", "at"]
def t_NoFact___init__ (K : Fg) : TS := (tOst K "at" (tVar 0) (tVar 1))
def sp_NoTick___init__ (K : Fg) : Sp := spI1 K "NoTick" "at"
theorem len_NoTick___init__ {K : Fg} {vs : List V} {H : Hp} {Q : VK} {E : XK} (h : sp_NoTick___init__ K vs H Q E) : vs.length = ["self", "at"].length := by
  obtain ⟨W, a, v, _, rfl, _⟩ := h
  rfl
/-- NoTick.__init__: the slots 0 self, 1 at -/
abbrev n_NoTick___init__ : List Str := ["self", "at"]
def t_NoTick___init__ (K : Fg) : TS := (tOst K "at" (tVar 0) (tVar 1))
def sp_Broken___init__ (K : Fg) : Sp := spI1 K "Broken" "at"
theorem len_Broken___init__ {K : Fg} {vs : List V} {H : Hp} {Q : VK} {E : XK} (h : sp_Broken___init__ K vs H Q E) : vs.length = ["self", "at"].length := by
  obtain ⟨W, a, v, _, rfl, _⟩ := h
  rfl
/-- Broken.__init__: the slots 0 self, 1 at -/
abbrev n_Broken___init__ : List Str := ["self", "at"]
def t_Broken___init__ (K : Fg) : TS := (tOst K "at" (tVar 0) (tVar 1))
def sp_NoLog___init__ (K : Fg) : Sp := spI1 K "NoLog" "at"
theorem len_NoLog___init__ {K : Fg} {vs : List V} {H : Hp} {Q : VK} {E : XK} (h : sp_NoLog___init__ K vs H Q E) : vs.length = ["self", "at"].length := by
  obtain ⟨W, a, v, _, rfl, _⟩ := h
  rfl
/-- NoLog.__init__: the slots 0 self, 1 at -/
abbrev n_NoLog___init__ : List Str := ["self", "at"]
def t_NoLog___init__ (K : Fg) : TS := (tOst K "at" (tVar 0) (tVar 1))
def sp_TooMany___init__ (K : Fg) : Sp := spI1 K "TooMany" "limit"
theorem len_TooMany___init__ {K : Fg} {vs : List V} {H : Hp} {Q : VK} {E : XK} (h : sp_TooMany___init__ K vs H Q E) : vs.length = ["self", "limit"].length := by
  obtain ⟨W, a, v, _, rfl, _⟩ := h
  rfl
/-- TooMany.__init__: the slots 0 self, 1 limit -/
abbrev n_TooMany___init__ : List Str := ["self", "limit"]
def t_TooMany___init__ (K : Fg) : TS := (tOst K "limit" (tVar 0) (tVar 1))
def sp_NoText___init__ (K : Fg) : Sp := spI1 K "NoText" "row"
theorem len_NoText___init__ {K : Fg} {vs : List V} {H : Hp} {Q : VK} {E : XK} (h : sp_NoText___init__ K vs H Q E) : vs.length = ["self", "row"].length := by
  obtain ⟨W, a, v, _, rfl, _⟩ := h
  rfl
/-- NoText.__init__: the slots 0 self, 1 row -/
abbrev n_NoText___init__ : List Str := ["self", "row"]
def t_NoText___init__ (K : Fg) : TS := (tOst K "row" (tVar 0) (tVar 1))
def sp_Barred___init__ (K : Fg) : Sp := spI2 K "Barred" "word" "some"
theorem len_Barred___init__ {K : Fg} {vs : List V} {H : Hp} {Q : VK} {E : XK} (h : sp_Barred___init__ K vs H Q E) : vs.length = ["self", "word", "some"].length := by
  obtain ⟨W, a, v, u, _, rfl, _⟩ := h
  rfl
/-- Barred.__init__: the slots 0 self, 1 word, 2 some -/
abbrev n_Barred___init__ : List Str := ["self", "word", "some"]
def t_Barred___init__ (K : Fg) : TS := (tSeq (tOst K "word" (tVar 0) (tVar 1))
  (tOst K "some" (tVar 0) (tVar 2)))
section
variable {K : Fg} {vs : List V} {H : Hp} {Q : VK} {E : XK}
theorem rdI1 {c f : Str} (T : OexC K (cErr K c)) (hno : PySem.W.findIn K (.ref (cErr K c)) f = some none) (h : spI1 K c f vs H Q E) : tOst K f (tVar 0) (tVar 1) { nx := fun _ H' => Q .non H', rt := Q } (start ["self", f] vs) H := by
  obtain ⟨W, a, v, rfl, rfl, hb, ha, k⟩ := h
  show tOst K f (tVar 0) (tVar 1) _ [some (.ref a), some v] W.H
  refine ⟨_, rfl, _, rfl, a, cErr K c, rfl, T, hno, .inl ⟨ha, fun dx hd ne => ?_⟩⟩
  have hb1 : (W.add dx (exd dx [(f, v)])).B a = none := (upd_ne ne.symm).trans hb
  exact k dx ((W.add dx (exd dx [(f, v)])).put a (exo a (cErr K c) (some dx)) hb1) ((Grow.s (W.grow_add hd)).trans (md_put hb1 fun _ => exo_tup)) upd_same hb1 upd_same ne
theorem rdI2 {c f g : Str} (T : OexC K (cErr K c)) (hno : PySem.W.findIn K (.ref (cErr K c)) f = some none) (hno2 : PySem.W.findIn K (.ref (cErr K c)) g = some none) (h : spI2 K c f g vs H Q E) : tSeq (tOst K f (tVar 0) (tVar 1)) (tOst K g (tVar 0) (tVar 2)) { nx := fun _ H' => Q .non H', rt := Q } (start ["self", f, g] vs) H := by
  obtain ⟨W, a, v, u, rfl, rfl, hb, ha, k⟩ := h
  show tSeq (tOst K f (tVar 0) (tVar 1)) (tOst K g (tVar 0) (tVar 2)) _ [some (.ref a), some v, some u] W.H
  refine ⟨_, rfl, _, rfl, a, cErr K c, rfl, T, hno, .inl ⟨ha, fun dx hd ne => ?_⟩⟩
  refine ⟨_, rfl, _, rfl, a, cErr K c, rfl, T, hno2, .inr ⟨dx, [(f, v)], upd_same, (upd_ne ne).trans upd_same, by show 1 ≤ 900; decide, ?_⟩⟩
  have hb1 : (W.add dx (exd dx [(g, u), (f, v)])).B a = none := (upd_ne ne.symm).trans hb
  have e : upd (upd (upd W.H dx (exd dx [(f, v)])) a (exo a (cErr K c) (some dx))) dx (exd dx [(g, u), (f, v)]) = upd (upd W.H dx (exd dx [(g, u), (f, v)])) a (exo a (cErr K c) (some dx)) := by
    funext b
    by_cases h1 : b = dx
    · subst h1; rw [upd_same, upd_ne ne, upd_same]
    · rw [upd_ne h1]
      by_cases h2 : b = a
      · subst h2; rw [upd_same, upd_same]
      · rw [upd_ne h2, upd_ne h2, upd_ne h1, upd_ne h1]
  rw [e]
  exact k dx ((W.add dx (exd dx [(g, u), (f, v)])).put a (exo a (cErr K c) (some dx)) hb1) ((Grow.s (W.grow_add hd)).trans (md_put hb1 fun _ => exo_tup)) upd_same hb1 upd_same ne
theorem rd_NoLetter___init__ (T : OexC K (cErr K "NoLetter")) (n0 : PySem.W.findIn K (.ref (cErr K "NoLetter")) "name" = some none) (h : sp_NoLetter___init__ K vs H Q E) : t_NoLetter___init__ K { nx := fun _ H' => Q .non H', rt := Q } (start n_NoLetter___init__ vs) H := rdI1 T n0 h
theorem rd_NoName___init__ (T : OexC K (cErr K "NoName")) (n0 : PySem.W.findIn K (.ref (cErr K "NoName")) "name" = some none) (h : sp_NoName___init__ K vs H Q E) : t_NoName___init__ K { nx := fun _ H' => Q .non H', rt := Q } (start n_NoName___init__ vs) H := rdI1 T n0 h
theorem rd_NoFeed___init__ (T : OexC K (cErr K "NoFeed")) (n0 : PySem.W.findIn K (.ref (cErr K "NoFeed")) "at" = some none) (h : sp_NoFeed___init__ K vs H Q E) : t_NoFeed___init__ K { nx := fun _ H' => Q .non H', rt := Q } (start n_NoFeed___init__ vs) H := rdI1 T n0 h
theorem rd_NoPast___init__ (T : OexC K (cErr K "NoPast")) (n0 : PySem.W.findIn K (.ref (cErr K "NoPast")) "at" = some none) (h : sp_NoPast___init__ K vs H Q E) : t_NoPast___init__ K { nx := fun _ H' => Q .non H', rt := Q } (start n_NoPast___init__ vs) H := rdI1 T n0 h
theorem rd_NoFact___init__ (T : OexC K (cErr K "NoFact")) (n0 : PySem.W.findIn K (.ref (cErr K "NoFact")) "at" = some none) (h : sp_NoFact___init__ K vs H Q E) : t_NoFact___init__ K { nx := fun _ H' => Q .non H', rt := Q } (start n_NoFact___init__ vs) H := rdI1 T n0 h
theorem rd_NoTick___init__ (T : OexC K (cErr K "NoTick")) (n0 : PySem.W.findIn K (.ref (cErr K "NoTick")) "at" = some none) (h : sp_NoTick___init__ K vs H Q E) : t_NoTick___init__ K { nx := fun _ H' => Q .non H', rt := Q } (start n_NoTick___init__ vs) H := rdI1 T n0 h
theorem rd_Broken___init__ (T : OexC K (cErr K "Broken")) (n0 : PySem.W.findIn K (.ref (cErr K "Broken")) "at" = some none) (h : sp_Broken___init__ K vs H Q E) : t_Broken___init__ K { nx := fun _ H' => Q .non H', rt := Q } (start n_Broken___init__ vs) H := rdI1 T n0 h
theorem rd_NoLog___init__ (T : OexC K (cErr K "NoLog")) (n0 : PySem.W.findIn K (.ref (cErr K "NoLog")) "at" = some none) (h : sp_NoLog___init__ K vs H Q E) : t_NoLog___init__ K { nx := fun _ H' => Q .non H', rt := Q } (start n_NoLog___init__ vs) H := rdI1 T n0 h
theorem rd_TooMany___init__ (T : OexC K (cErr K "TooMany")) (n0 : PySem.W.findIn K (.ref (cErr K "TooMany")) "limit" = some none) (h : sp_TooMany___init__ K vs H Q E) : t_TooMany___init__ K { nx := fun _ H' => Q .non H', rt := Q } (start n_TooMany___init__ vs) H := rdI1 T n0 h
theorem rd_NoText___init__ (T : OexC K (cErr K "NoText")) (n0 : PySem.W.findIn K (.ref (cErr K "NoText")) "row" = some none) (h : sp_NoText___init__ K vs H Q E) : t_NoText___init__ K { nx := fun _ H' => Q .non H', rt := Q } (start n_NoText___init__ vs) H := rdI1 T n0 h
theorem rd_Barred___init__ (T : OexC K (cErr K "Barred")) (n0 : PySem.W.findIn K (.ref (cErr K "Barred")) "word" = some none) (n1 : PySem.W.findIn K (.ref (cErr K "Barred")) "some" = some none) (h : sp_Barred___init__ K vs H Q E) : t_Barred___init__ K { nx := fun _ H' => Q .non H', rt := Q } (start n_Barred___init__ vs) H := rdI2 T n0 n1 h
end
section
variable {K : Fg} {ε : Ef} {W : Wd} {σ : SS} {te tf : TE} {x : EV} {d : PyData}
theorem stp_none {W W' : Wd} (g : Stp ε W W') {a : Addr} (h : W'.H a = none) : W.H a = none := by
  cases q : W.H a with
  | none => rfl
  | some o => exact absurd h (g.md.d a (by rw [q]; exact fun z => by cases z))
theorem ev_errO {α : Type} [Py α] {y : α} {c : Str} (h : EvR ε K te σ W y) : EvR ε K (BV.tErrO (cErr K c) te) σ W (EV.mk c []) := fun W1 g1 Q k => h W1 g1 _ fun v W2 g2 rv a ha =>
  k (.ref a) (W2.add a (ExO (.ref (cErr K c)) a)) (g2.and (W2.grow_add ha)) ⟨a, [], rfl, .inl ⟨rfl, upd_same⟩, .nil⟩
theorem ev_errI1 {c f : Str} (h : EvR ε K te σ W d) : EvR ε K (BV.tErrI (cErr K c) (spI1 K c f) [] (tCons te tNil)) σ W (EV.mk c [(f, d)]) := fun W1 g1 Q k => h W1 g1 _ fun v W2 g2 rv => ⟨by show 1 ≤ 1000; decide, fun a ha => by
  refine ⟨W2.put a (exo a (cErr K c) none) (W2.free ha), a, v, rfl, rfl, W2.free ha, upd_same, fun dx W3 m3 e3 b3 d3 ne => ⟨rfl, ?_⟩⟩
  have G : Grow W2 W3 := Md.fresh (.refl [] W2) ((Grow.s (W2.grow_put ha)).trans m3) ha
  exact k (.ref a) (W3.fix a _ e3) ((g2.and G).fix (stp_none g2 ha) g1.i e3 b3) ⟨a, _, rfl, .inr ⟨dx, upd_same, (upd_ne ne).trans d3⟩, .cons (Py.mono (exExt (ex_fix e3 b3)) (rep_g G rv)) .nil⟩⟩
theorem ev_errI2 {c f g : Str} {d2 : PyData} (h : EvR ε K te σ W d) (h2 : EvR ε K tf σ W d2) : EvR ε K (BV.tErrI (cErr K c) (spI2 K c f g) [] (tCons te (tCons tf tNil))) σ W (EV.mk c [(g, d2), (f, d)]) := fun W1 g1 Q k => h W1 g1 _ fun v W1' g1' rv' => h2 W1' (g1.trans g1') _ fun u W2 g2' ru => ⟨by show 2 ≤ 1000; decide, fun a ha => by
  have g2 := g1'.trans g2'
  have rv := rep_s g2' rv'
  refine ⟨W2.put a (exo a (cErr K c) none) (W2.free ha), a, v, u, rfl, rfl, W2.free ha, upd_same, fun dx W3 m3 e3 b3 d3 ne => ⟨rfl, ?_⟩⟩
  have G : Grow W2 W3 := Md.fresh (.refl [] W2) ((Grow.s (W2.grow_put ha)).trans m3) ha
  exact k (.ref a) (W3.fix a _ e3) ((g2.and G).fix (stp_none g2 ha) g1.i e3 b3) ⟨a, _, rfl, .inr ⟨dx, upd_same, (upd_ne ne).trans d3⟩, .cons (Py.mono (exExt (ex_fix e3 b3)) (rep_g G ru)) (.cons (Py.mono (exExt (ex_fix e3 b3)) (rep_g G rv)) .nil)⟩⟩
theorem ev_errV {f : Str} (h : EvR ε K te σ W x) (T : XfC K (cErr K x.nm)) (hno : PySem.W.findIn K (.ref (cErr K x.nm)) f = some none) (hd : x.fs.lookup f = some d) : EvR ε K (BV.tXv K f te) σ W d := fun W1 g1 Q k => h W1 g1 _ fun v W2 g2 ⟨a, vs, e, er, fr⟩ => by
  obtain ⟨u, hu, ru⟩ := fr.get hd
  rcases er with ⟨z, _⟩ | ⟨dx, h1, h2⟩
  · rw [z] at hu; cases hu
  · exact ⟨a, _, dx, vs, u, e, ext_x W2.sub h1, ext_x W2.sub h2, T, hno, hu, k u W2 g2 ru⟩
theorem ev_isE {cv : Value} {c : V} {b : Bool} (h : EvR ε K te σ W x) (r : ExcC K (cErr K x.nm)) (hc : ∀ u, RelV c u → u = cv) (hk : PySem.W.kitOne K (.ref (cErr K x.nm)) cv = some b) : EvR ε K (tCB (BV.rIsV K) (tCons te (tCons (tC c) tNil))) σ W b := fun W1 g1 Q k => h W1 g1 _ fun v W2 g2 ⟨a, vs, e, er, fr⟩ =>
  ⟨a, _, vs, c, cv, b, by rw [e], era_ext W2.sub er, r, hc, hk, k _ W2 g2 rfl⟩
theorem ev_isN {n : Str} (h : EvR ε K te σ W x) (r : Refd K x.nm) (hn : n ∈ names26) : EvR ε K (tCB (BV.rIsV K) (tCons te (tCons (tC (.ref (cErr K n))) tNil))) σ W (decide (n = x.nm)) := ev_isE h r.e (fun u h => by cases h; rfl) (r.ks n hn)
end
/-- what can be shown of a thing -/
structure Shw (d : PyData) : Prop where
  sh : d.showable = true
  dp : d.depth ≤ 3
  ln : d.shown.length ≤ 5000
theorem shw_int {i : Int} (h : i.natAbs.log2 < 1920) : Shw (.int i) := ⟨by simp [PyData.showable, h], by simp [PyData.depth], by
  simp only [PyData.shown]
  have := PyProof.Rows.int_text_len_1921 h
  omega⟩
theorem dpd_pl {K : Fg} {H : Hp} {v : V} {d : PyData} (h : DpD K H v d) (n : d.hasDict = false) : Dp K H v d := by
  cases h with
  | pl h _ => exact h
  | dc h => simp [PyData.hasDict] at n
theorem dpa_pl {K : Fg} {H : Hp} : ∀ {vs : List V} {ds : List PyData}, Reps K H vs ds → (∀ d ∈ ds, d.hasDict = false) → DpAll K H vs ds
  | _, _, .nil, _ => .nil
  | _, d :: _, .cons r t, h => .cons (dpd_pl r (h d (by simp))) (dpa_pl t fun e he => h e (by simp [he]))
theorem nd_all : ∀ {ds : List PyData}, (∀ d ∈ ds, d.hasDict = false) → PyData.hasDictAll ds = false
  | [], _ => by simp [PyData.hasDictAll]
  | d :: ds, h => by
    have h1 : PyData.hasDictAll ds = false := nd_all fun e he => h e (List.mem_cons_of_mem _ he)
    simp [PyData.hasDictAll, h d (by simp), h1]
theorem rep_tupD {K : Fg} {H : Hp} {v : V} {ds : List PyData} (r : rep K H v (Tup.mk ds)) (h : ∀ d ∈ ds, d.hasDict = false) : rep K H v (PyData.tuple ds) := by
  obtain ⟨a, vs, e, s, rr⟩ := r
  rw [e]
  exact DpD.pl (.tup (SqT.of s) (dpa_pl rr h)) (by simp only [PyData.hasDict]; exact nd_all h)
theorem ev_tupD {K : Fg} {ε : Ef} {W : Wd} {σ : SS} {te : TE} {ds : List PyData} (h : EvR ε K te σ W (Tup.mk ds)) (n : ∀ d ∈ ds, d.hasDict = false) : EvR ε K te σ W (PyData.tuple ds) := fun W1 g1 Q k => h W1 g1 Q fun v W2 g2 r => k v W2 g2 (rep_tupD r n)
theorem ev_reprV {K : Fg} {ε : Ef} {W : Wd} {σ : SS} {te : TE} {d : PyData} (h : EvR ε K te σ W d) (s : Shw d) : EvR ε K (tCB (rReprV K) (tCons te tNil)) σ W d.shown := fun W1 g1 Q k => h W1 g1 _ fun v W2 g2 r =>
  ⟨v, d, rfl, dpd_ext W2.sub r, s.sh, Nat.le_trans s.dp (by decide), Evl.sz_of (Nat.le_trans s.ln (by decide)), k _ W2 g2 rfl⟩
end B
/-! k00: the law -/
namespace B
open PySem L2
open PySem.W (Tup T3 T4 Datum DatumOrd)
open Evl (Ex)
def kindsL (x : Str) : List Bool := names26.map fun n => decide (n = x)
def sp__law_kinds (K : Fg) : Sp := fun vs H Q _ => ∃ (W : Wd) (v : V) (x : EV), W.H = H ∧ vs = [v] ∧ rep K W.B v x ∧ x.nm ∈ names26 ∧ ∀ u W', Grow W W' → rep K W'.B u (kindsL x.nm) → Q u W'.H
theorem len__law_kinds {K : Fg} {vs : List V} {H : Hp} {Q : VK} {E : XK} (h : sp__law_kinds K vs H Q E) : vs.length = ["_law_e"].length := by
  obtain ⟨W, v, x, _, rfl, _⟩ := h
  rfl
/-- _law_kinds: the slots 0 _law_e, 1 _law_found -/
abbrev n__law_kinds : List Str := ["_law_e", "_law_found"]
def t__law_kinds (K : Fg) : TS := (tSeq (tAsg (tLst (tCons (tCB (BV.rIsV K) (tCons (tVar 0) (tCons (tC (.ref (cErr K "NoLetters"))) tNil))) (tCons (tCB (BV.rIsV K) (tCons (tVar 0) (tCons (tC (.ref (cErr K "NoLetter"))) tNil))) (tCons (tCB (BV.rIsV K) (tCons (tVar 0) (tCons (tC (.ref (cErr K "NoFeed"))) tNil))) (tCons (tCB (BV.rIsV K) (tCons (tVar 0) (tCons (tC (.ref (cErr K "NoMany"))) tNil))) tNil))))) (gName 1))
  (tSeq (tAsg (tOp rCat (tVar 1) (tLst (tCons (tCB (BV.rIsV K) (tCons (tVar 0) (tCons (tC (.ref (cErr K "NoTimes"))) tNil))) (tCons (tCB (BV.rIsV K) (tCons (tVar 0) (tCons (tC (.ref (cErr K "NoKeeper"))) tNil))) (tCons (tCB (BV.rIsV K) (tCons (tVar 0) (tCons (tC (.ref (cErr K "NoSum"))) tNil))) (tCons (tCB (BV.rIsV K) (tCons (tVar 0) (tCons (tC (.ref (cErr K "NoPast"))) tNil))) tNil)))))) (gName 1))
  (tSeq (tAsg (tOp rCat (tVar 1) (tLst (tCons (tCB (BV.rIsV K) (tCons (tVar 0) (tCons (tC (.ref (cErr K "NoTally"))) tNil))) (tCons (tCB (BV.rIsV K) (tCons (tVar 0) (tCons (tC (.ref (cErr K "NoFact"))) tNil))) (tCons (tCB (BV.rIsV K) (tCons (tVar 0) (tCons (tC (.ref (cErr K "Barred"))) tNil))) (tCons (tCB (BV.rIsV K) (tCons (tVar 0) (tCons (tC (.ref (cErr K "NoWeights"))) tNil))) tNil)))))) (gName 1))
  (tSeq (tAsg (tOp rCat (tVar 1) (tLst (tCons (tCB (BV.rIsV K) (tCons (tVar 0) (tCons (tC (.ref (cErr K "NoPaper"))) tNil))) (tCons (tCB (BV.rIsV K) (tCons (tVar 0) (tCons (tC (.ref (cErr K "NoCount"))) tNil))) (tCons (tCB (BV.rIsV K) (tCons (tVar 0) (tCons (tC (.ref (cErr K "TooMany"))) tNil))) (tCons (tCB (BV.rIsV K) (tCons (tVar 0) (tCons (tC (.ref (cErr K "NoSize"))) tNil))) tNil)))))) (gName 1))
  (tSeq (tAsg (tOp rCat (tVar 1) (tLst (tCons (tCB (BV.rIsV K) (tCons (tVar 0) (tCons (tC (.ref (cErr K "NoNumber"))) tNil))) (tCons (tCB (BV.rIsV K) (tCons (tVar 0) (tCons (tC (.ref (cErr K "NoRank"))) tNil))) (tCons (tCB (BV.rIsV K) (tCons (tVar 0) (tCons (tC (.ref (cErr K "NoTruth"))) tNil))) (tCons (tCB (BV.rIsV K) (tCons (tVar 0) (tCons (tC (.ref (cErr K "NoTick"))) tNil))) tNil)))))) (gName 1))
  (tSeq (tAsg (tOp rCat (tVar 1) (tLst (tCons (tCB (BV.rIsV K) (tCons (tVar 0) (tCons (tC (.ref (cErr K "NoAsking"))) tNil))) (tCons (tCB (BV.rIsV K) (tCons (tVar 0) (tCons (tC (.ref (cErr K "NoDeed"))) tNil))) (tCons (tCB (BV.rIsV K) (tCons (tVar 0) (tCons (tC (.ref (cErr K "NoName"))) tNil))) (tCons (tCB (BV.rIsV K) (tCons (tVar 0) (tCons (tC (.ref (cErr K "Broken"))) tNil))) tNil)))))) (gName 1))
  (tRet (tOp rCat (tVar 1) (tLst (tCons (tCB (BV.rIsV K) (tCons (tVar 0) (tCons (tC (.ref (cErr K "NoLog"))) tNil))) (tCons (tCB (BV.rIsV K) (tCons (tVar 0) (tCons (tC (.ref (cErr K "NoText"))) tNil))) tNil)))))))))))
def plainL : List (Int × EV) := [(0, ⟨"NoLetters", []⟩), (3, ⟨"NoMany", []⟩), (4, ⟨"NoTimes", []⟩), (5, ⟨"NoKeeper", []⟩), (6, ⟨"NoSum", []⟩), (8, ⟨"NoTally", []⟩), (11, ⟨"NoWeights", []⟩), (12, ⟨"NoPaper", []⟩), (13, ⟨"NoCount", []⟩), (15, ⟨"NoSize", []⟩), (16, ⟨"NoNumber", []⟩), (17, ⟨"NoRank", []⟩), (18, ⟨"NoTruth", []⟩), (20, ⟨"NoAsking", []⟩), (21, ⟨"NoDeed", []⟩)]
def sp__law_plain (K : Fg) : Sp := fun vs H Q _ => ∃ (W : Wd) (v : V) (d : PyData), W.H = H ∧ vs = [v] ∧ rep K W.B v d ∧ ∀ u W', Grow W W' → rep K W'.B u plainL → Q u W'.H
theorem len__law_plain {K : Fg} {vs : List V} {H : Hp} {Q : VK} {E : XK} (h : sp__law_plain K vs H Q E) : vs.length = ["_law_matter"].length := by
  obtain ⟨W, v, x, _, rfl, _⟩ := h
  rfl
/-- _law_plain: the slots 0 _law_matter, 1 _law_some -/
abbrev n__law_plain : List Str := ["_law_matter", "_law_some"]
def t__law_plain (K : Fg) : TS := (tSeq (tAsg (tLst (tCons (tTup (tCons (tC (.int 0)) (tCons (BV.tErrO (cErr K "NoLetters") (tVar 0)) tNil))) (tCons (tTup (tCons (tC (.int 3)) (tCons (BV.tErrO (cErr K "NoMany") (tVar 0)) tNil))) (tCons (tTup (tCons (tC (.int 4)) (tCons (BV.tErrO (cErr K "NoTimes") (tVar 0)) tNil))) (tCons (tTup (tCons (tC (.int 5)) (tCons (BV.tErrO (cErr K "NoKeeper") (tVar 0)) tNil))) tNil))))) (gName 1))
  (tSeq (tAsg (tOp rCat (tVar 1) (tLst (tCons (tTup (tCons (tC (.int 6)) (tCons (BV.tErrO (cErr K "NoSum") (tVar 0)) tNil))) (tCons (tTup (tCons (tC (.int 8)) (tCons (BV.tErrO (cErr K "NoTally") (tVar 0)) tNil))) (tCons (tTup (tCons (tC (.int 11)) (tCons (BV.tErrO (cErr K "NoWeights") (tVar 0)) tNil))) (tCons (tTup (tCons (tC (.int 12)) (tCons (BV.tErrO (cErr K "NoPaper") (tVar 0)) tNil))) tNil)))))) (gName 1))
  (tSeq (tAsg (tOp rCat (tVar 1) (tLst (tCons (tTup (tCons (tC (.int 13)) (tCons (BV.tErrO (cErr K "NoCount") (tVar 0)) tNil))) (tCons (tTup (tCons (tC (.int 15)) (tCons (BV.tErrO (cErr K "NoSize") (tVar 0)) tNil))) (tCons (tTup (tCons (tC (.int 16)) (tCons (BV.tErrO (cErr K "NoNumber") (tVar 0)) tNil))) (tCons (tTup (tCons (tC (.int 17)) (tCons (BV.tErrO (cErr K "NoRank") (tVar 0)) tNil))) tNil)))))) (gName 1))
  (tRet (tOp rCat (tVar 1) (tLst (tCons (tTup (tCons (tC (.int 18)) (tCons (BV.tErrO (cErr K "NoTruth") (tVar 0)) tNil))) (tCons (tTup (tCons (tC (.int 20)) (tCons (BV.tErrO (cErr K "NoAsking") (tVar 0)) tNil))) (tCons (tTup (tCons (tC (.int 21)) (tCons (BV.tErrO (cErr K "NoDeed") (tVar 0)) tNil))) tNil)))))))))
abbrev Row4 := T4 Int EV PyData PyData
def atL (dn : PyData) : List (Int × EV) := [(2, ⟨"NoFeed", [("at", dn)]⟩), (7, ⟨"NoPast", [("at", dn)]⟩), (9, ⟨"NoFact", [("at", dn)]⟩), (19, ⟨"NoTick", [("at", dn)]⟩), (23, ⟨"Broken", [("at", dn)]⟩), (24, ⟨"NoLog", [("at", dn)]⟩)]
def atR (dn : PyData) (p : Int × EV) : Row4 := ⟨p.1, p.2, dn, dn⟩
def headL (dt w s : PyData) : List Row4 := [⟨1, ⟨"NoLetter", [("name", dt)]⟩, dt, dt⟩, ⟨22, ⟨"NoName", [("name", dt)]⟩, dt, dt⟩, ⟨10, ⟨"Barred", [("some", s), ("word", w)]⟩, .tuple [w, s], .tuple [w, s]⟩]
def lastL (dn : PyData) : List Row4 := [⟨14, ⟨"TooMany", [("limit", dn)]⟩, dn, dn⟩, ⟨25, ⟨"NoText", [("row", dn)]⟩, dn, dn⟩]
def rowsL (dt dn w s : PyData) : List Row4 := headL dt w s ++ (atL dn).map (atR dn) ++ lastL dn
def sp__law_fielded (K : Fg) : Sp := fun vs H Q _ => ∃ (W : Wd) (v u z : V) (dt dn w s : PyData), W.H = H ∧ vs = [v, u, z] ∧ rep K W.B v dt ∧ rep K W.B u dn ∧ rep K W.B z (Tup.mk [w, s]) ∧ w.hasDict = false ∧ s.hasDict = false ∧ ∀ y W', Grow W W' → rep K W'.B y (rowsL dt dn w s) → Q y W'.H
theorem len__law_fielded {K : Fg} {vs : List V} {H : Hp} {Q : VK} {E : XK} (h : sp__law_fielded K vs H Q E) : vs.length = ["_law_thing", "_law_number", "_law_bar"].length := by
  obtain ⟨W, v, u, z, dt, dn, w, s, _, rfl, _⟩ := h
  rfl
/-- _law_fielded: the slots 0 _law_thing, 1 _law_number, 2 _law_bar, 3 _law_first, 4 _law_second, 5 _law_third, 6 _law_some, 7 _law_placed, 8 _law_spot, 9 _law_made, 10 _law_limited, 11 _law_rowed -/
abbrev n__law_fielded : List Str := ["_law_thing", "_law_number", "_law_bar", "_law_first", "_law_second", "_law_third", "_law_some", "_law_placed", "_law_spot", "_law_made", "_law_limited", "_law_rowed"]
def t__law_fielded (K : Fg) : TS := (tSeq (tPar3 3 4 5 (tCons (BV.tErrI (cErr K "NoLetter") (sp_NoLetter___init__ K) [] (tCons (tVar 0) tNil)) (tCons (BV.tErrI (cErr K "NoName") (sp_NoName___init__ K) [] (tCons (tVar 0) tNil)) (tCons (BV.tErrI (cErr K "Barred") (sp_Barred___init__ K) [] (tCons (tOp (rIxT K) (tVar 2) (tC (.int 0))) (tCons (tOp (rIxT K) (tVar 2) (tC (.int 1))) tNil))) tNil))))
  (tSeq (tAsg (tLst (tCons (tTup (tCons (tC (.int 1)) (tCons (tVar 3) (tCons (BV.tXv K "name" (tVar 3)) (tCons (tVar 0) tNil))))) (tCons (tTup (tCons (tC (.int 22)) (tCons (tVar 4) (tCons (BV.tXv K "name" (tVar 4)) (tCons (tVar 0) tNil))))) tNil))) (gName 6))
  (tSeq (tDrop (tBM K "list" rAppend (tVar 6) (tCons (tTup (tCons (tC (.int 10)) (tCons (tVar 5) (tCons (tTup (tCons (BV.tXv K "word" (tVar 5)) (tCons (BV.tXv K "some" (tVar 5)) tNil))) (tCons (tVar 2) tNil))))) tNil)))
  (tSeq (tAsg (tLst (tCons (tTup (tCons (tC (.int 2)) (tCons (BV.tErrI (cErr K "NoFeed") (sp_NoFeed___init__ K) [] (tCons (tVar 1) tNil)) tNil))) (tCons (tTup (tCons (tC (.int 7)) (tCons (BV.tErrI (cErr K "NoPast") (sp_NoPast___init__ K) [] (tCons (tVar 1) tNil)) tNil))) (tCons (tTup (tCons (tC (.int 9)) (tCons (BV.tErrI (cErr K "NoFact") (sp_NoFact___init__ K) [] (tCons (tVar 1) tNil)) tNil))) (tCons (tTup (tCons (tC (.int 19)) (tCons (BV.tErrI (cErr K "NoTick") (sp_NoTick___init__ K) [] (tCons (tVar 1) tNil)) tNil))) tNil))))) (gName 7))
  (tSeq (tFor (iList K (tOp rCat (tVar 7) (tLst (tCons (tTup (tCons (tC (.int 23)) (tCons (BV.tErrI (cErr K "Broken") (sp_Broken___init__ K) [] (tCons (tVar 1) tNil)) tNil))) (tCons (tTup (tCons (tC (.int 24)) (tCons (BV.tErrI (cErr K "NoLog") (sp_NoLog___init__ K) [] (tCons (tVar 1) tNil)) tNil))) tNil))))) (gPair K 8 9)
  (tDrop (tBM K "list" rAppend (tVar 6) (tCons (tTup (tCons (tVar 8) (tCons (tVar 9) (tCons (BV.tXv K "at" (tVar 9)) (tCons (tVar 1) tNil))))) tNil))))
  (tSeq (tPar 10 11 (tCons (BV.tErrI (cErr K "TooMany") (sp_TooMany___init__ K) [] (tCons (tVar 1) tNil)) (tCons (BV.tErrI (cErr K "NoText") (sp_NoText___init__ K) [] (tCons (tVar 1) tNil)) tNil)))
  (tRet (tOp rCat (tVar 6) (tLst (tCons (tTup (tCons (tC (.int 14)) (tCons (tVar 10) (tCons (BV.tXv K "limit" (tVar 10)) (tCons (tVar 1) tNil))))) (tCons (tTup (tCons (tC (.int 25)) (tCons (tVar 11) (tCons (BV.tXv K "row" (tVar 11)) (tCons (tVar 1) tNil))))) tNil)))))))))))
def sp_law (K : Fg) : Sp := fun vs H Q _ => ∃ (a : Addr) (ns : List Int), vs = [.ref a] ∧ SqL K H a (ns.map V.int) ∧ ns.length ≤ 63 ∧ ∀ H', Q (.bl true) H'
theorem len_law {K : Fg} {vs : List V} {H : Hp} {Q : VK} {E : XK} (h : sp_law K vs H Q E) : vs.length = ["_law_script"].length := by
  obtain ⟨a, ns, rfl, _⟩ := h
  rfl
theorem law_in {K : Fg} {H : Hp} (a : Addr) (ns : List Int) (hl : ns.length ≤ 63) (hS : SqL K H a (ns.map V.int)) : sp_law K [.ref a] H (fun v _ => v = .bl true) (fun _ _ _ => False) := ⟨a, ns, rfl, hS, hl, fun _ => rfl⟩
/-- law: the slots 0 _law_script, 1 _law_state, 2 _law_turn, 3 _law_matter, 4 _law_thing, 5 _law_number, 6 _law_some, 7 _law_bar, 8 _law_rows, 9 _law_spot, 10 _law_made, 11 _law_told, 12 _law_due, 13 _law_row, 14 _law_k -/
abbrev n_law : List Str := ["_law_script", "_law_state", "_law_turn", "_law_matter", "_law_thing", "_law_number", "_law_some", "_law_bar", "_law_rows", "_law_spot", "_law_made", "_law_told", "_law_due", "_law_row", "_law_k"]
def t_law (K : Fg) : TS := (tSeq (tAsg (tCall (sp__law_begun K) [] E0 (tCons (tVar 0) tNil)) (gName 1))
  (tSeq (tFor (iRng1 (tCons (tC (.int 3)) tNil)) (gName 2)
  (tSeq (tAsg (tCall (sp__law_pick K) [] E0 (tCons (tVar 1) (tCons (tLst (tCons (tC (.str "")) (tCons (tC (.str "no such")) (tCons (tOp rMulS (tC (.str "a")) (tC (.int 60))) tNil)))) tNil))) (gName 3))
  (tSeq (tAsg (tCall (sp__law_pick K) [] E0 (tCons (tVar 1) (tCons (tLst (tCons (tC (.int 0)) (tCons (tCall (sp__law_draw K) [] E0 (tCons (tVar 1) (tCons (tOp oPow (tC (.int 10)) (tC (.int 30))) tNil))) (tCons (tUn oNeg (tC (.int 1))) (tCons (tC .non) (tCons (tC (.bl true)) (tCons (tC (.str "ann")) (tCons (tC (.str "")) (tCons (tTup (tCons (tC (.str "a")) (tCons (tC (.str "b")) tNil))) (tCons (tLst (tCons (tC (.str "a")) tNil)) (tCons (tTup tNil) (tCons tDNewK tNil)))))))))))) tNil))) (gName 4))
  (tSeq (tAsg (tCall (sp__law_pick K) [] E0 (tCons (tVar 1) (tCons (tLst (tCons (tC (.int 0)) (tCons (tC (.int 1)) (tCons (tCall (sp__law_draw K) [] E0 (tCons (tVar 1) (tCons (tC (.int 600)) tNil))) (tCons (tCall (sp__law_draw K) [] E0 (tCons (tVar 1) (tCons (tOp oPow (tC (.int 10)) (tC (.int 9))) tNil))) tNil))))) tNil))) (gName 5))
  (tSeq (tAsg (tCall (sp__law_pick K) [] E0 (tCons (tVar 1) (tCons (tLst (tCons (tTup (tCons (tC (.str "a")) tNil)) (tCons (tTup (tCons (tC (.str "ann")) (tCons (tC (.str "bob")) tNil))) (tCons (tTup (tCons (tC (.str "a")) (tCons (tC (.str "b")) (tCons (tC (.str "zzzzzz")) tNil)))) tNil)))) tNil))) (gName 6))
  (tSeq (tAsg (tTup (tCons (tCall (sp__law_pick K) [] E0 (tCons (tVar 1) (tCons (tLst (tCons (tC (.str "own")) (tCons (tC (.str "much")) (tCons (tC (.str "few")) tNil)))) tNil))) (tCons (tVar 6) tNil))) (gName 7))
  (tSeq (tAsg (tCall (sp__law_fielded K) [] E0 (tCons (tVar 4) (tCons (tVar 5) (tCons (tVar 7) tNil)))) (gName 8))
  (tSeq (tFor (iList K (tVar 8)) (gTup K 4 (gCons (gName 9) (gCons (gName 10) (gCons (gName 11) (gCons (gName 12) gNil)))))
  (tIfS (tTest (tOp rNe (tCB (rReprV K) (tCons (tVar 11) tNil)) (tCB (rReprV K) (tCons (tVar 12) tNil)))) (tRet (tC (.bl false))) tNext))
  (tFor (iList K (tOp rCat (tCall (sp__law_plain K) [] E0 (tCons (tVar 3) tNil)) (tLc (iList K (tVar 8)) (gName 13) tYes (tSl (rSlA K) (tVar 13) tNoPart (tPart (tC (.int 2)))) [13]))) (gPair K 9 10)
  (tSeq (tIfS (tOr (tTest (tOp (rEqT K true) (tCall (sp__law_kinds K) [] E0 (tCons (tVar 10) tNil)) (tLc (iRng1 (tCons (tC (.int 26)) tNil)) (gName 14) tYes (tOp rEq (tVar 14) (tVar 9)) [14]))) (tNot (tB (tCB (BV.rIsV K) (tCons (tVar 10) (tCons (tC (.ref (cErr K "LeftError"))) tNil)))))) (tRet (tC (.bl false))) tNext)
  (tIfS (tNot (tB (tCB (BV.rIsV K) (tCons (tVar 10) (tCons (tC (.ty "ValueError")) tNil))))) (tRet (tC (.bl false))) tNext)))))))))))
  (tRet (tC (.bl true)))))
theorem q_asgL {i : Nat} {te : TE} {tz : TS} {D : Ends} {σ : SS} {H : Hp} (h : te σ H fun v H1 => tz D (σ.set i (some v)) H1) : tSeq (tAsg te (gName i)) tz D σ H := h
theorem take_snoc00 {α : Type} {xs : List α} {i : Nat} {x : α} (h : xs[i]? = some x) : xs.take (i + 1) = xs.take i ++ [x] := by rw [List.take_add_one, h]; rfl
section
variable {K : Fg} {vs : List V} {H : Hp} {Q : VK} {E : XK}
theorem rd__law_kinds (r : ∀ n ∈ names26, Refd K n) (h : sp__law_kinds K vs H Q E) : t__law_kinds K { nx := fun _ H' => Q .non H', rt := Q } (start n__law_kinds vs) H := by
  obtain ⟨W, v, x, rfl, rfl, rv, hx, k⟩ := h
  have b : ∀ {W' : Wd} {σ : SS} (n : Str), n ∈ names26 → σ[0]? = some (some v) → rep K W'.B v x → EvR pur K (tCB (BV.rIsV K) (tCons (tVar 0) (tCons (tC (.ref (cErr K n))) tNil))) σ W' (decide (n = x.nm)) := fun n hn h0 rv => ev_isN (ev_var (i := 0) h0 rv) (r _ hx) hn
  show tSeq _ _ _ [some v, none] W.H
  refine q_asg (ε := pur) (K := K) (x := [decide ("NoLetters" = x.nm), decide ("NoLetter" = x.nm), decide ("NoFeed" = x.nm), decide ("NoMany" = x.nm)]) (ev_lst (ea_cons (b "NoLetters" (by decide +kernel) rfl rv) (ea_cons (b "NoLetter" (by decide +kernel) rfl rv) (ea_cons (b "NoFeed" (by decide +kernel) rfl rv) (ea_cons (b "NoMany" (by decide +kernel) rfl rv) ea_nil)))) (by show 4 ≤ 100000; decide)) trivial fun v1 W1 g1 r1 => ?_
  have rv1 := rep_s g1 rv
  refine q_asg (ε := pur) (K := K) (x := [decide ("NoLetters" = x.nm), decide ("NoLetter" = x.nm), decide ("NoFeed" = x.nm), decide ("NoMany" = x.nm)] ++ [decide ("NoTimes" = x.nm), decide ("NoKeeper" = x.nm), decide ("NoSum" = x.nm), decide ("NoPast" = x.nm)]) (ev_op (K := K) (ev_var (i := 1) rfl r1) (ev_lst (ea_cons (b "NoTimes" (by decide +kernel) rfl rv1) (ea_cons (b "NoKeeper" (by decide +kernel) rfl rv1) (ea_cons (b "NoSum" (by decide +kernel) rfl rv1) (ea_cons (b "NoPast" (by decide +kernel) rfl rv1) ea_nil)))) (by show 4 ≤ 100000; decide)) (ro_cat (by show 4 + 4 ≤ 100000; decide))) trivial fun v2 W2 g2 r2 => ?_
  have rv2 := rep_s g2 rv1
  refine q_asg (ε := pur) (K := K) (x := [decide ("NoLetters" = x.nm), decide ("NoLetter" = x.nm), decide ("NoFeed" = x.nm), decide ("NoMany" = x.nm), decide ("NoTimes" = x.nm), decide ("NoKeeper" = x.nm), decide ("NoSum" = x.nm), decide ("NoPast" = x.nm)] ++ [decide ("NoTally" = x.nm), decide ("NoFact" = x.nm), decide ("Barred" = x.nm), decide ("NoWeights" = x.nm)]) (ev_op (K := K) (ev_var (i := 1) rfl r2) (ev_lst (ea_cons (b "NoTally" (by decide +kernel) rfl rv2) (ea_cons (b "NoFact" (by decide +kernel) rfl rv2) (ea_cons (b "Barred" (by decide +kernel) rfl rv2) (ea_cons (b "NoWeights" (by decide +kernel) rfl rv2) ea_nil)))) (by show 4 ≤ 100000; decide)) (ro_cat (by show 8 + 4 ≤ 100000; decide))) trivial fun v3 W3 g3 r3 => ?_
  have rv3 := rep_s g3 rv2
  refine q_asg (ε := pur) (K := K) (x := [decide ("NoLetters" = x.nm), decide ("NoLetter" = x.nm), decide ("NoFeed" = x.nm), decide ("NoMany" = x.nm), decide ("NoTimes" = x.nm), decide ("NoKeeper" = x.nm), decide ("NoSum" = x.nm), decide ("NoPast" = x.nm), decide ("NoTally" = x.nm), decide ("NoFact" = x.nm), decide ("Barred" = x.nm), decide ("NoWeights" = x.nm)] ++ [decide ("NoPaper" = x.nm), decide ("NoCount" = x.nm), decide ("TooMany" = x.nm), decide ("NoSize" = x.nm)]) (ev_op (K := K) (ev_var (i := 1) rfl r3) (ev_lst (ea_cons (b "NoPaper" (by decide +kernel) rfl rv3) (ea_cons (b "NoCount" (by decide +kernel) rfl rv3) (ea_cons (b "TooMany" (by decide +kernel) rfl rv3) (ea_cons (b "NoSize" (by decide +kernel) rfl rv3) ea_nil)))) (by show 4 ≤ 100000; decide)) (ro_cat (by show 12 + 4 ≤ 100000; decide))) trivial fun v4 W4 g4 r4 => ?_
  have rv4 := rep_s g4 rv3
  refine q_asg (ε := pur) (K := K) (x := [decide ("NoLetters" = x.nm), decide ("NoLetter" = x.nm), decide ("NoFeed" = x.nm), decide ("NoMany" = x.nm), decide ("NoTimes" = x.nm), decide ("NoKeeper" = x.nm), decide ("NoSum" = x.nm), decide ("NoPast" = x.nm), decide ("NoTally" = x.nm), decide ("NoFact" = x.nm), decide ("Barred" = x.nm), decide ("NoWeights" = x.nm), decide ("NoPaper" = x.nm), decide ("NoCount" = x.nm), decide ("TooMany" = x.nm), decide ("NoSize" = x.nm)] ++ [decide ("NoNumber" = x.nm), decide ("NoRank" = x.nm), decide ("NoTruth" = x.nm), decide ("NoTick" = x.nm)]) (ev_op (K := K) (ev_var (i := 1) rfl r4) (ev_lst (ea_cons (b "NoNumber" (by decide +kernel) rfl rv4) (ea_cons (b "NoRank" (by decide +kernel) rfl rv4) (ea_cons (b "NoTruth" (by decide +kernel) rfl rv4) (ea_cons (b "NoTick" (by decide +kernel) rfl rv4) ea_nil)))) (by show 4 ≤ 100000; decide)) (ro_cat (by show 16 + 4 ≤ 100000; decide))) trivial fun v5 W5 g5 r5 => ?_
  have rv5 := rep_s g5 rv4
  refine q_asg (ε := pur) (K := K) (x := [decide ("NoLetters" = x.nm), decide ("NoLetter" = x.nm), decide ("NoFeed" = x.nm), decide ("NoMany" = x.nm), decide ("NoTimes" = x.nm), decide ("NoKeeper" = x.nm), decide ("NoSum" = x.nm), decide ("NoPast" = x.nm), decide ("NoTally" = x.nm), decide ("NoFact" = x.nm), decide ("Barred" = x.nm), decide ("NoWeights" = x.nm), decide ("NoPaper" = x.nm), decide ("NoCount" = x.nm), decide ("TooMany" = x.nm), decide ("NoSize" = x.nm), decide ("NoNumber" = x.nm), decide ("NoRank" = x.nm), decide ("NoTruth" = x.nm), decide ("NoTick" = x.nm)] ++ [decide ("NoAsking" = x.nm), decide ("NoDeed" = x.nm), decide ("NoName" = x.nm), decide ("Broken" = x.nm)]) (ev_op (K := K) (ev_var (i := 1) rfl r5) (ev_lst (ea_cons (b "NoAsking" (by decide +kernel) rfl rv5) (ea_cons (b "NoDeed" (by decide +kernel) rfl rv5) (ea_cons (b "NoName" (by decide +kernel) rfl rv5) (ea_cons (b "Broken" (by decide +kernel) rfl rv5) ea_nil)))) (by show 4 ≤ 100000; decide)) (ro_cat (by show 20 + 4 ≤ 100000; decide))) trivial fun v6 W6 g6 r6 => ?_
  have rv6 := rep_s g6 rv5
  refine s_ret (ε := pur) (K := K) (x := kindsL x.nm) (ev_op (K := K) (ev_var (i := 1) rfl r6) (ev_lst (ea_cons (b "NoLog" (by decide +kernel) rfl rv6) (ea_cons (b "NoText" (by decide +kernel) rfl rv6) ea_nil)) (by show 2 ≤ 100000; decide)) (ro_cat (by show 24 + 2 ≤ 100000; decide))) trivial fun u W9 g9 r9 => k u W9 ((((((g1.pure.trans g2.pure).trans g3.pure).trans g4.pure).trans g5.pure).trans g6.pure).trans g9.pure) r9
theorem rd__law_plain (h : sp__law_plain K vs H Q E) : t__law_plain K { nx := fun _ H' => Q .non H', rt := Q } (start n__law_plain vs) H := by
  obtain ⟨W, v, d, rfl, rfl, rv, k⟩ := h
  have b : ∀ {W' : Wd} {σ : SS} (i : Int) (n : Str), σ[0]? = some (some v) → rep K W'.B v d → EvR pur K (tTup (tCons (tC (.int i)) (tCons (BV.tErrO (cErr K n) (tVar 0)) tNil))) σ W' ((i, (⟨n, []⟩ : EV)) : Int × EV) := fun i n h0 rv => ev_pair ev_int (ev_errO (ev_var (i := 0) h0 rv))
  show tSeq _ _ _ [some v, none] W.H
  refine q_asg (ε := pur) (K := K) (x := ([(0, (⟨"NoLetters", []⟩ : EV)), (3, (⟨"NoMany", []⟩ : EV)), (4, (⟨"NoTimes", []⟩ : EV)), (5, (⟨"NoKeeper", []⟩ : EV))] : List (Int × EV))) (ev_lst (ea_cons (b 0 "NoLetters" rfl rv) (ea_cons (b 3 "NoMany" rfl rv) (ea_cons (b 4 "NoTimes" rfl rv) (ea_cons (b 5 "NoKeeper" rfl rv) ea_nil)))) (by show 4 ≤ 100000; decide)) trivial fun v1 W1 g1 r1 => ?_
  have rv1 := rep_s g1 rv
  refine q_asg (ε := pur) (K := K) (x := ([(0, (⟨"NoLetters", []⟩ : EV)), (3, (⟨"NoMany", []⟩ : EV)), (4, (⟨"NoTimes", []⟩ : EV)), (5, (⟨"NoKeeper", []⟩ : EV))] ++ [(6, (⟨"NoSum", []⟩ : EV)), (8, (⟨"NoTally", []⟩ : EV)), (11, (⟨"NoWeights", []⟩ : EV)), (12, (⟨"NoPaper", []⟩ : EV))] : List (Int × EV))) (ev_op (K := K) (ev_var (i := 1) rfl r1) (ev_lst (ea_cons (b 6 "NoSum" rfl rv1) (ea_cons (b 8 "NoTally" rfl rv1) (ea_cons (b 11 "NoWeights" rfl rv1) (ea_cons (b 12 "NoPaper" rfl rv1) ea_nil)))) (by show 4 ≤ 100000; decide)) (ro_cat (by show 4 + 4 ≤ 100000; decide))) trivial fun v2 W2 g2 r2 => ?_
  have rv2 := rep_s g2 rv1
  refine q_asg (ε := pur) (K := K) (x := ([(0, (⟨"NoLetters", []⟩ : EV)), (3, (⟨"NoMany", []⟩ : EV)), (4, (⟨"NoTimes", []⟩ : EV)), (5, (⟨"NoKeeper", []⟩ : EV)), (6, (⟨"NoSum", []⟩ : EV)), (8, (⟨"NoTally", []⟩ : EV)), (11, (⟨"NoWeights", []⟩ : EV)), (12, (⟨"NoPaper", []⟩ : EV))] ++ [(13, (⟨"NoCount", []⟩ : EV)), (15, (⟨"NoSize", []⟩ : EV)), (16, (⟨"NoNumber", []⟩ : EV)), (17, (⟨"NoRank", []⟩ : EV))] : List (Int × EV))) (ev_op (K := K) (ev_var (i := 1) rfl r2) (ev_lst (ea_cons (b 13 "NoCount" rfl rv2) (ea_cons (b 15 "NoSize" rfl rv2) (ea_cons (b 16 "NoNumber" rfl rv2) (ea_cons (b 17 "NoRank" rfl rv2) ea_nil)))) (by show 4 ≤ 100000; decide)) (ro_cat (by show 8 + 4 ≤ 100000; decide))) trivial fun v3 W3 g3 r3 => ?_
  have rv3 := rep_s g3 rv2
  refine s_ret (ε := pur) (K := K) (x := plainL) (ev_op (K := K) (ev_var (i := 1) rfl r3) (ev_lst (ea_cons (b 18 "NoTruth" rfl rv3) (ea_cons (b 20 "NoAsking" rfl rv3) (ea_cons (b 21 "NoDeed" rfl rv3) ea_nil))) (by show 3 ≤ 100000; decide)) (ro_cat (by show 12 + 3 ≤ 100000; decide))) trivial fun u W9 g9 r9 => k u W9 (((g1.pure.trans g2.pure).trans g3.pure).trans g9.pure) r9
theorem rd__law_fielded (xf_NoLetter : XfC K (cErr K "NoLetter")) (xf_NoName : XfC K (cErr K "NoName")) (xf_NoFeed : XfC K (cErr K "NoFeed")) (xf_NoPast : XfC K (cErr K "NoPast")) (xf_NoFact : XfC K (cErr K "NoFact")) (xf_NoTick : XfC K (cErr K "NoTick")) (xf_Broken : XfC K (cErr K "Broken")) (xf_NoLog : XfC K (cErr K "NoLog")) (xf_TooMany : XfC K (cErr K "TooMany")) (xf_NoText : XfC K (cErr K "NoText")) (xf_Barred : XfC K (cErr K "Barred")) (xo_NoLetter_name : PySem.W.findIn K (.ref (cErr K "NoLetter")) "name" = some none) (xo_NoName_name : PySem.W.findIn K (.ref (cErr K "NoName")) "name" = some none) (xo_NoFeed_at : PySem.W.findIn K (.ref (cErr K "NoFeed")) "at" = some none) (xo_NoPast_at : PySem.W.findIn K (.ref (cErr K "NoPast")) "at" = some none) (xo_NoFact_at : PySem.W.findIn K (.ref (cErr K "NoFact")) "at" = some none) (xo_NoTick_at : PySem.W.findIn K (.ref (cErr K "NoTick")) "at" = some none) (xo_Broken_at : PySem.W.findIn K (.ref (cErr K "Broken")) "at" = some none) (xo_NoLog_at : PySem.W.findIn K (.ref (cErr K "NoLog")) "at" = some none) (xo_TooMany_limit : PySem.W.findIn K (.ref (cErr K "TooMany")) "limit" = some none) (xo_NoText_row : PySem.W.findIn K (.ref (cErr K "NoText")) "row" = some none) (xo_Barred_word : PySem.W.findIn K (.ref (cErr K "Barred")) "word" = some none) (xo_Barred_some : PySem.W.findIn K (.ref (cErr K "Barred")) "some" = some none) (h : sp__law_fielded K vs H Q E) : t__law_fielded K { nx := fun _ H' => Q .non H', rt := Q } (start n__law_fielded vs) H := by
  obtain ⟨W, v, u, z, dt, dn, w, s, rfl, rfl, rv, ru, rz, hw, hs, k⟩ := h
  have nd2 : ∀ d ∈ [w, s], d.hasDict = false := fun d hd => by
    simp only [List.mem_cons, List.not_mem_nil, or_false] at hd
    rcases hd with rfl | rfl
    · exact hw
    · exact hs
  have e1 : ∀ {W' : Wd} {σ : SS} (c f : Str) {i : Nat} {v : V} {d : PyData}, σ[i]? = some (some v) → rep K W'.B v d → EvR pur K (BV.tErrI (cErr K c) (spI1 K c f) [] (tCons (tVar i) tNil)) σ W' (EV.mk c [(f, d)]) := fun {_} {_} c f {_} {_} {_} h0 r => ev_errI1 (ev_var h0 r)
  have ix0 : ∀ {W' : Wd} {σ : SS}, σ[2]? = some (some z) → rep K W'.B z (Tup.mk [w, s]) → EvR pur K (tOp (rIxT K) (tVar 2) (tC (.int 0))) σ W' w ∧ EvR pur K (tOp (rIxT K) (tVar 2) (tC (.int 1))) σ W' s := fun h0 r => ⟨ev_op (ev_var (i := 2) h0 r) ev_int (ro_ixT (atI_nat (j := 0) rfl)), ev_op (ev_var (i := 2) h0 r) ev_int (ro_ixT (atI_nat (j := 1) rfl))⟩
  let S0 : Option V → Option V → Option V → Option V → Option V → Option V → Option V → Option V → Option V → SS := fun a b c d e f g i j => [some v, some u, some z, a, b, c, d, e, f, g, i, j]
  show tSeq _ _ _ (S0 none none none none none none none none none) W.H
  refine q_par3 (ε := pur) (P := fun v W => rep K W.B v (EV.mk "NoLetter" [("name", dt)])) (R := fun v W => rep K W.B v (EV.mk "NoName" [("name", dt)])) (S := fun v W => rep K W.B v (EV.mk "Barred" [("some", s), ("word", w)])) (e1 "NoLetter" "name" (i := 0) rfl rv).p (e1 "NoName" "name" (i := 0) rfl rv).p (ev_errI2 (c := "Barred") (f := "word") (g := "some") (ix0 rfl rz).1 (ix0 rfl rz).2).p trivial (fun v W W' g r => rep_s g r) (fun v W W' g r => rep_s g r) fun a b c W1 g1 ra rb rc => ?_
  have rv1 := rep_s g1 rv
  have ru1 := rep_s g1 ru
  have rz1 := rep_s g1 rz
  show tSeq _ _ _ (S0 (some a) (some b) (some c) none none none none none none) W1.H
  refine q_asgL ?_
  refine en_lst (ε := pur) (K := K) (σ := S0 (some a) (some b) (some c) none none none none none none) (xs := ([⟨1, ⟨"NoLetter", [("name", dt)]⟩, dt, dt⟩, ⟨22, ⟨"NoName", [("name", dt)]⟩, dt, dt⟩] : List Row4)) (ea_cons (ev_t4 ev_int (ev_var (i := 3) rfl ra) (ev_errV (ev_var (i := 3) rfl ra) xf_NoLetter xo_NoLetter_name rfl) (ev_var (i := 0) rfl rv1)) (ea_cons (ev_t4 ev_int (ev_var (i := 4) rfl rb) (ev_errV (ev_var (i := 4) rfl rb) xf_NoName xo_NoName_name rfl) (ev_var (i := 0) rfl rv1)) ea_nil)) (by show 2 ≤ 100000; decide) W1 (.start trivial) _ fun d vs1 W2 g2 f2 b2 h2 rs2 => ?_
  have m2 : LMut K W2 d _ := ⟨b2, vs1, h2, rs2⟩
  have G2 := g1.pure.trans g2.pure
  have fd : W.H d = none := stp_none g1 f2
  show tSeq _ _ _ (S0 (some a) (some b) (some c) (some (.ref d)) none none none none none) W2.H
  refine q_append (i := 6) (y := (⟨10, ⟨"Barred", [("some", s), ("word", w)]⟩, .tuple [w, s], .tuple [w, s]⟩ : Row4)) rfl m2 (ev_t4 ev_int (ev_var (i := 5) rfl (rep_s g2 rc)) (ev_tupD (ev_tupN (ea_cons (ev_errV (ev_var (i := 5) rfl (rep_s g2 rc)) xf_Barred xo_Barred_word rfl) (ea_cons (ev_errV (ev_var (i := 5) rfl (rep_s g2 rc)) xf_Barred xo_Barred_some rfl) ea_nil)) (by show 2 ≤ 100000; decide)) nd2) (ev_tupD (ev_var (i := 2) rfl (rep_s g2 rz1)) nd2)) (by show 2 < 100000; decide) fun W3 md3 o3 m3 => ?_
  have G3 : Grow W W3 := Md.fresh G2 md3 fd
  have ru3 := rep_g G3 ru
  show tSeq _ _ _ (S0 (some a) (some b) (some c) (some (.ref d)) none none none none none) W3.H
  refine q_asg (ε := pur) (K := K) (x := ([(2, ⟨"NoFeed", [("at", dn)]⟩), (7, ⟨"NoPast", [("at", dn)]⟩), (9, ⟨"NoFact", [("at", dn)]⟩), (19, ⟨"NoTick", [("at", dn)]⟩)] : List (Int × EV))) (ev_lst (ea_cons (ev_pair ev_int (e1 "NoFeed" "at" (i := 1) rfl ru3)) (ea_cons (ev_pair ev_int (e1 "NoPast" "at" (i := 1) rfl ru3)) (ea_cons (ev_pair ev_int (e1 "NoFact" "at" (i := 1) rfl ru3)) (ea_cons (ev_pair ev_int (e1 "NoTick" "at" (i := 1) rfl ru3)) ea_nil)))) (by show 4 ≤ 100000; decide)) trivial fun v7 W4 g4 r7 => ?_
  have ru4 := rep_s g4 ru3
  have m4 := m3.gr g4.pure
  have G4 := G3.trans g4.pure
  show tSeq _ _ _ (S0 (some a) (some b) (some c) (some (.ref d)) (some v7) none none none none) W4.H
  refine q_for (ε := pur) (K := K) (W := W4) (σ := S0 (some a) (some b) (some c) (some (.ref d)) (some v7) none none none none) (xs := atL dn) (ei_list (ev_op (K := K) (ev_var (i := 7) rfl r7) (ev_lst (ea_cons (ev_pair ev_int (e1 "Broken" "at" (i := 1) rfl ru4)) (ea_cons (ev_pair ev_int (e1 "NoLog" "at" (i := 1) rfl ru4)) ea_nil)) (by show 2 ≤ 100000; decide)) (ro_cat (by show 4 + 2 ≤ 100000; decide)))) trivial fun W5 g5 =>
    ⟨fun i σ W' => ∃ (v8 v9 : Option V), σ = S0 (some a) (some b) (some c) (some (.ref d)) (some v7) v8 v9 none none ∧ On W5 W' ∧ Grow W W' ∧ LMut K W' d (headL dt w s ++ ((atL dn).take i).map (atR dn)),
      ⟨none, none, rfl, .refl _, G4.trans g5.pure, m4.gr g5.pure⟩, fun i σ' W' ⟨_, _, _, o, _⟩ => o, ?_, ?_⟩
  · rintro i p vx σ' W6' W6 hi hp ⟨v8, v9, rfl, o6', G6', m6'⟩ g6 rx
    have m6 := m6'.gr g6
    have G6 := G6'.trans g6
    have hm : p ∈ atL dn := List.mem_of_getElem? hp
    have hf : XfC K (cErr K p.2.nm) ∧ PySem.W.findIn K (.ref (cErr K p.2.nm)) "at" = some none ∧ p.2.fs.lookup ("at" : Str) = some dn := by
      simp only [atL, List.mem_cons, List.not_mem_nil, or_false] at hm
      rcases hm with rfl | rfl | rfl | rfl | rfl | rfl
      · exact ⟨xf_NoFeed, xo_NoFeed_at, rfl⟩
      · exact ⟨xf_NoPast, xo_NoPast_at, rfl⟩
      · exact ⟨xf_NoFact, xo_NoFact_at, rfl⟩
      · exact ⟨xf_NoTick, xo_NoTick_at, rfl⟩
      · exact ⟨xf_Broken, xo_Broken_at, rfl⟩
      · exact ⟨xf_NoLog, xo_NoLog_at, rfl⟩
    refine gt_p2 rx fun w1 w2 r1 r2 => ?_
    show tDrop _ _ (S0 (some a) (some b) (some c) (some (.ref d)) (some v7) (some w1) (some w2) none none) W6.H
    refine s_append (i := 6) (y := atR dn p) rfl m6 (ev_t4 (ev_var (i := 8) rfl r1) (ev_var (i := 9) rfl r2) (ev_errV (ev_var (i := 9) rfl r2) hf.1 hf.2.1 hf.2.2) (ev_var (i := 1) rfl (rep_g G6 ru))) ?_ fun W7 md7 o7 m7 => ?_
    · have : i < 6 := hi
      simp only [headL, List.length_append, List.length_cons, List.length_nil, List.length_map, List.length_take]
      omega
    rw [List.append_assoc, ← List.map_singleton (f := atR dn), ← List.map_append, ← take_snoc00 hp] at m7
    exact ⟨W7, rfl, _, _, rfl, (o6'.trans g6.on).trans o7, Md.fresh G6 md7 fd, m7⟩
  · rintro σ' W6 ⟨v8, v9, rfl, o6, G6, m6⟩
    rw [List.take_length] at m6
    show tSeq _ _ _ (S0 (some a) (some b) (some c) (some (.ref d)) (some v7) v8 v9 none none) W6.H
    refine q_par (ε := pur) (P := fun v W => rep K W.B v (EV.mk "TooMany" [("limit", dn)])) (R := fun v W => rep K W.B v (EV.mk "NoText" [("row", dn)])) (e1 "TooMany" "limit" (i := 1) rfl (rep_g G6 ru)).p (e1 "NoText" "row" (i := 1) rfl (rep_g G6 ru)).p trivial (fun v W W' g r => rep_s g r) fun x y W7 g7 rx ry => ?_
    have m7 := m6.gr g7.pure
    have G7 := G6.trans g7.pure
    obtain ⟨o8, h8, r8, x8, md8⟩ := m7.fix
    have G8 : Grow W (W7.fix d o8 h8) := md8 W [] G7 fd
    have ru8 := rep_g G8 ru
    show tRet _ _ (S0 (some a) (some b) (some c) (some (.ref d)) (some v7) v8 v9 (some x) (some y)) (W7.fix d o8 h8).H
    refine s_ret (ε := pur) (K := K) (x := rowsL dt dn w s) (ev_op (K := K) (ev_var (i := 6) rfl r8) (ev_lst (ea_cons (ev_t4 ev_int (ev_var (i := 10) rfl (rex x8 rx)) (ev_errV (ev_var (i := 10) rfl (rex x8 rx)) xf_TooMany xo_TooMany_limit rfl) (ev_var (i := 1) rfl ru8)) (ea_cons (ev_t4 ev_int (ev_var (i := 11) rfl (rex x8 ry)) (ev_errV (ev_var (i := 11) rfl (rex x8 ry)) xf_NoText xo_NoText_row rfl) (ev_var (i := 1) rfl ru8)) ea_nil)) (by show 2 ≤ 100000; decide)) (ro_cat (by show (headL dt w s ++ (atL dn).map (atR dn)).length + 2 ≤ 100000; simp only [headL, atL, List.length_append, List.length_cons, List.length_nil, List.length_map]; decide))) trivial fun y9 W9 g9 r9 => k y9 W9 (G8.trans g9.pure) r9
end
end B
/-! k00: the law walked -/
namespace B
open PySem L2
open PySem.W (Tup T3 T4 Datum DatumOrd)
open Evl (Ex)
def idx26 : List (Int × Str) := [(0, "NoLetters"), (3, "NoMany"), (4, "NoTimes"), (5, "NoKeeper"), (6, "NoSum"), (8, "NoTally"), (11, "NoWeights"), (12, "NoPaper"), (13, "NoCount"), (15, "NoSize"), (16, "NoNumber"), (17, "NoRank"), (18, "NoTruth"), (20, "NoAsking"), (21, "NoDeed"), (1, "NoLetter"), (22, "NoName"), (10, "Barred"), (2, "NoFeed"), (7, "NoPast"), (9, "NoFact"), (19, "NoTick"), (23, "Broken"), (24, "NoLog"), (14, "TooMany"), (25, "NoText")]
theorem idx_ok : ∀ t ∈ idx26, t.2 ∈ names26 ∧ kindsL t.2 = (rng 0 26).map fun k => decide (k = t.1) := by decide +kernel
theorem rows_idx {dt dn w s : PyData} : ∀ p ∈ plainL ++ (rowsL dt dn w s).map (fun r => (r.a, r.b)), (p.1, p.2.nm) ∈ idx26 := fun p hp => by
  have e : (plainL ++ (rowsL dt dn w s).map (fun r => (r.a, r.b))).map (fun p => (p.1, p.2.nm)) = idx26 := rfl
  rw [← e]
  exact List.mem_map.mpr ⟨p, hp, rfl⟩
def bwL : List PyData := [.str "own", .str "much", .str "few"]
def bsL : List PyData := [.tuple ([("a" : Str)].map PyData.str), .tuple ([("ann" : Str), "bob"].map PyData.str), .tuple ([("a" : Str), "b", "zzzzzz"].map PyData.str)]
def shwB (d : PyData) : Bool := d.showable && (decide (d.depth ≤ 3) && decide (d.shown.length ≤ 5000))
theorem shw_of {d : PyData} (h : shwB d = true) : Shw d := by
  simp only [shwB, Bool.and_eq_true, decide_eq_true_eq] at h
  exact ⟨h.1, h.2.1, h.2.2⟩
theorem bars_ok : ∀ w ∈ bwL, ∀ s ∈ bsL, w.hasDict = false ∧ s.hasDict = false ∧ shwB (.tuple [w, s]) = true := fun w hw s hs => by
  simp only [bwL, bsL, List.mem_cons, List.not_mem_nil, or_false] at hw hs
  rcases hw with rfl | rfl | rfl <;> rcases hs with rfl | rfl | rfl <;> decide +kernel
theorem rows_same {dt dn w s : PyData} (h1 : Shw dt) (h2 : Shw dn) (h3 : Shw (.tuple [w, s])) : ∀ r ∈ rowsL dt dn w s, r.c = r.d ∧ Shw r.c := fun r hr => by
  simp only [rowsL, headL, atL, lastL, atR, List.map_cons, List.map_nil, List.cons_append, List.nil_append, List.mem_cons, List.not_mem_nil, or_false] at hr
  rcases hr with rfl | rfl | rfl | rfl | rfl | rfl | rfl | rfl | rfl | rfl | rfl
  · exact ⟨rfl, h1⟩
  · exact ⟨rfl, h1⟩
  · exact ⟨rfl, h3⟩
  all_goals exact ⟨rfl, h2⟩
theorem ro_mulS {K : Fg} {x : Str} {n : Int} (h : MulOk x n) : RO K rMulS x n (Txt.mul x n) := ro_val fun v u _ rv ru Q k => ⟨x, n, rv, ru, h, k _ rfl⟩
theorem neq_self00 {α : Type} [DecidableEq α] (x : α) : (!decide (x = x)) = false := by rw [decide_eq_true rfl]; rfl
theorem reps_mem00 {α : Type} [Py α] {K : Fg} {H : Hp} {v : V} : ∀ {vs : List V} {xs : List α}, Reps K H vs xs → v ∈ vs → ∃ x, x ∈ xs ∧ rep K H v x
  | _, _, .nil, h => by cases h
  | _, x :: _, .cons r t, h => by
    rcases List.mem_cons.mp h with e | e
    · subst e; exact ⟨x, List.mem_cons_self, r⟩
    · obtain ⟨y, hy, ry⟩ := reps_mem00 t e
      exact ⟨y, List.mem_cons_of_mem _ hy, ry⟩
section
variable {K : Fg} {p c : Addr} {W : Wd} {σ : SS} {te tf : TE} {i : Nat} {α β : Type} [Py α] [Py β] {P : α → Prop}
/-- one of these, drawn -/
theorem ex_pick {R : List α → Prop} (h0 : σ[i]? = some (some (.ref p))) (h : EvX (drw p c) K te σ W R) (hR : ∀ xs, R xs → xs ≠ [] ∧ xs.length < 100000 ∧ ∀ x ∈ xs, P x) : EvX (drw p c) K (tCall (sp__law_pick K) [] E0 (tCons (tVar i) (tCons te tNil))) σ W P := fun W1 g1 Q k =>
  ⟨_, h0, h W1 g1 _ fun v W2 g2 ⟨xs, px, a, vs, e, s, r⟩ => by
    obtain ⟨h1, h2, h3⟩ := hR xs px
    have ln := Reps.len r
    refine ⟨W2, p, c, a, vs, rfl, by rw [e]; rfl, (show St W2 p c from g2.i), s, fun z => h1 (List.eq_nil_of_length_eq_zero (by rw [← ln, z]; rfl)), by omega, fun y W3 hy m s3 => ?_⟩
    obtain ⟨x, hx, rx⟩ := reps_mem00 r hy
    exact k y W3 (g2.trans ⟨m, s3⟩) ⟨x, h3 x hx, Py.mono (exExt m.b) rx⟩⟩
/-- a drawn number -/
theorem ex_drawD {n : Int} (h0 : σ[i]? = some (some (.ref p))) (hn : EvR (drw p c) K te σ W n) (hp : 0 < n) (h2 : n ≤ 10 ^ 30) : EvX (drw p c) K (tCall (sp__law_draw K) [] E0 (tCons (tVar i) (tCons te tNil))) σ W Shw := fun W1 g1 Q k =>
  ev_draw h0 hn hp h2 W1 g1 _ fun v W2 g2 ⟨r, e, r0, r1⟩ => k v W2 g2 ⟨.int r, shw_int (Nat.lt_of_lt_of_le (PySem.Flt.log2_lt_of (k := 101) (by decide) (by omega)) (by decide)), by rw [e]; exact rep_dt (α := Int) (x := r) rfl⟩
theorem ex_tup2 {y : α} {P : α → Prop} {ε : Ef} (h : EvX ε K te σ W P) (hf : EvR ε K tf σ W y) : EvP ε (tTup (tCons te (tCons tf tNil))) σ W (fun v W' => ∃ x, P x ∧ rep K W'.B v (Tup.mk [x, y])) := fun W1 g1 Q k =>
  h W1 g1 _ fun v W2 g2 ⟨x, px, rx⟩ => hf W2 (g1.trans g2) _ fun u W3 g3 ry => ⟨Evl.sz_of (by show 2 ≤ 100000; decide), fun q hq =>
    k _ (W3.add q (.tup [v, u])) ((g2.trans g3).and (W3.grow_add hq)) ⟨x, px, q, _, rfl, upd_same, Reps.mono (exExt (W3.grow_add hq).b) (.cons (rep_s g3 rx) (.cons ry .nil))⟩⟩
theorem ev_q {ε : Ef} {x : α} (h : EvR ε K te σ W x) : EvX ε K te σ W (fun y => y = x) := ex_of h rfl
end
theorem q_asgH {i : Nat} {te : TE} {tz : TS} {D : Ends} {σ : SS} {H : Hp} (h : te σ H fun v H1 => tz D (σ.set i (some v)) H1) : tSeq (tAsg te (gName i)) tz D σ H := h
section
variable {K : Fg} {vs : List V} {H : Hp} {Q : VK} {E : XK}
theorem rd_law (rf : ∀ n ∈ names26, Refd K n) (h : sp_law K vs H Q E) : t_law K { nx := fun _ H' => Q .non H', rt := Q } (start n_law vs) H := by
  obtain ⟨a0, ns, rfl, hS, hl, k⟩ := h
  let W : Wd := ⟨H, H, Ext.refl H⟩
  show t_law K _ [some (.ref a0), none, none, none, none, none, none, none, none, none, none, none, none, none, none] W.H
  refine q_asgH ?_
  refine ⟨_, rfl, W, a0, ns, rfl, rfl, hS, hl, fun p c W1 g1 s1 hp0 hc0 => ?_⟩
  let S1 : Option V → Option V → Option V → Option V → Option V → Option V → Option V → Option V → Option V → Option V → Option V → SS := fun v2 v3 v4 v5 v6 v7 v8 v9 v10 v11 v12 => [some (.ref a0), some (.ref p), v2, v3, v4, v5, v6, v7, v8, v9, v10, v11, v12, none, none]
  show tSeq _ _ _ (S1 none none none none none none none none none none none) W1.H
  refine q_for (ε := drw p c) (K := K) (W := W1) (xs := rng 0 3) (ei_rng1 (n := 3) ev_int (by decide) (by decide)) s1 fun W2 g2 =>
    ⟨fun i σ W' => ∃ (v2 v3 v4 v5 v6 v7 v8 v9 v10 v11 v12 : Option V), σ = S1 v2 v3 v4 v5 v6 v7 v8 v9 v10 v11 v12 ∧ On W2 W' ∧ St W' p c,
      ⟨_, _, _, _, _, _, _, _, _, _, _, rfl, .refl _, g2.i⟩, fun i σ' W' ⟨_, _, _, _, _, _, _, _, _, _, _, _, o, _⟩ => o, ?_, ?_⟩
  · rintro i x vx σ' W3' W3 hi hx ⟨v2, v3, v4, v5, v6, v7, v8, v9, v10, v11, v12, rfl, o3', s3'⟩ g3 rx
    have s3 : St W3 p c := s3'.g g3
    have o3 := o3'.trans g3.on
    show tSeq _ _ _ (S1 (some vx) v3 v4 v5 v6 v7 v8 v9 v10 v11 v12) W3.H
    refine q_asgP (ε := drw p c) (ex_pick (K := K) (i := 1) (P := fun _ : PyData => True) rfl (ev_q (ev_lst (ea_cons (ev_dt (α := Str) ev_str) (ea_cons (ev_dt (α := Str) ev_str) (ea_cons (ev_dt (α := Str) (ev_op (K := K) (x := ("a" : Str)) (y := (60 : Int)) (z := Txt.mul "a" 60) ev_str ev_int (ro_mulS (by unfold MulOk; decide +kernel)))) ea_nil))) (by show 3 ≤ 100000; decide))) fun xs h => by subst h; exact ⟨by simp, by show 3 < 100000; decide, fun _ _ => trivial⟩) s3 fun w3 W4 g4 ⟨dm, _, rm⟩ => ?_
    have s4 : St W4 p c := g4.i
    show tSeq _ _ _ (S1 (some vx) (some w3) v4 v5 v6 v7 v8 v9 v10 v11 v12) W4.H
    refine q_asgP (ε := drw p c) (ex_pick (K := K) (i := 1) (P := Shw) rfl (ex_lst (exa_cons (ex_of (ev_dt (α := Int) ev_int) (shw_of (by decide +kernel))) (exa_cons (ex_drawD (i := 1) rfl (ev_op (K := K) ev_int ev_int (ro_I ⟨by decide, by decide, by decide⟩)) (by decide) (by decide)) (exa_cons (ex_of (ev_dt (α := Int) (ev_un ev_int ru_neg)) (shw_of (by decide +kernel))) (exa_cons (ex_of (ev_dt (α := Unit) ev_non) (shw_of (by decide +kernel))) (exa_cons (ex_of (ev_dt (α := Bool) ev_bl) (shw_of (by decide +kernel))) (exa_cons (ex_of (ev_dt (α := Str) ev_str) (shw_of (by decide +kernel))) (exa_cons (ex_of (ev_dt (α := Str) ev_str) (shw_of (by decide +kernel))) (exa_cons (ex_of (ev_dt (α := Tup Str) (ev_tupN (ea_cons ev_str (ea_cons ev_str ea_nil)) (by show 2 ≤ 100000; decide))) (shw_of (by decide +kernel))) (exa_cons (ex_of (ev_dt (α := List Str) (ev_lst (ea_cons ev_str ea_nil) (by show 1 ≤ 100000; decide))) (shw_of (by decide +kernel))) (exa_cons (ex_of (ev_dt (α := Tup Str) (ev_tupN ea_nil (by show 0 ≤ 100000; decide))) (shw_of (by decide +kernel))) (exa_cons (ex_of (ev_dd ed_new) (shw_of (by decide +kernel))) exa_nil))))))))))) (by decide)) fun xs h => ⟨fun z => by rw [z] at h; exact absurd h.1 (by decide), by rw [h.1]; decide, h.2⟩) s4 fun w4 W5 g5 ⟨dt, st, rt⟩ => ?_
    have s5 : St W5 p c := g5.i
    have rm5 := rep_s g5 rm
    show tSeq _ _ _ (S1 (some vx) (some w3) (some w4) v5 v6 v7 v8 v9 v10 v11 v12) W5.H
    refine q_asgP (ε := drw p c) (ex_pick (K := K) (i := 1) (P := Shw) rfl (ex_lst (exa_cons (ex_of (ev_dt (α := Int) ev_int) (shw_of (by decide +kernel))) (exa_cons (ex_of (ev_dt (α := Int) ev_int) (shw_of (by decide +kernel))) (exa_cons (ex_drawD (i := 1) rfl ev_int (by decide) (by decide)) (exa_cons (ex_drawD (i := 1) rfl (ev_op (K := K) ev_int ev_int (ro_I ⟨by decide, by decide, by decide⟩)) (by decide) (by decide)) exa_nil)))) (by decide)) fun xs h => ⟨fun z => by rw [z] at h; exact absurd h.1 (by decide), by rw [h.1]; decide, h.2⟩) s5 fun w5 W6 g6 ⟨dn, sn, rn⟩ => ?_
    have s6 : St W6 p c := g6.i
    have rm6 := rep_s g6 rm5
    have rt6 := rep_s g6 rt
    show tSeq _ _ _ (S1 (some vx) (some w3) (some w4) (some w5) v6 v7 v8 v9 v10 v11 v12) W6.H
    have tT : ∀ {W : Wd} {σ : SS} {ta : TA} {ts : List Str}, EvAs (drw p c) K ta σ W ts → ts.length ≤ 100000 → EvR (drw p c) K (tTup ta) σ W (PyData.tuple (ts.map PyData.str)) := fun h hl => ev_dt (α := Tup Str) (ev_tupN h hl)
    refine q_asgP (ε := drw p c) (ex_pick (K := K) (i := 1) (P := fun s => s ∈ bsL) rfl (ev_q (ev_lst (ea_cons (tT (ea_cons ev_str ea_nil) (by show 1 ≤ 100000; decide)) (ea_cons (tT (ea_cons ev_str (ea_cons ev_str ea_nil)) (by show 2 ≤ 100000; decide)) (ea_cons (tT (ea_cons ev_str (ea_cons ev_str (ea_cons ev_str ea_nil))) (by show 3 ≤ 100000; decide)) ea_nil))) (by show 3 ≤ 100000; decide))) fun xs h => by subst h; exact ⟨by simp, by show 3 < 100000; decide, fun _ h => h⟩) s6 fun w6 W7 g7 ⟨ds, hs, rs⟩ => ?_
    have s7 : St W7 p c := g7.i
    have rm7 := rep_s g7 rm6
    have rt7 := rep_s g7 rt6
    have rn7 := rep_s g7 rn
    show tSeq _ _ _ (S1 (some vx) (some w3) (some w4) (some w5) (some w6) v7 v8 v9 v10 v11 v12) W7.H
    refine q_asgP (ε := drw p c) (ex_tup2 (K := K) (P := fun s : PyData => s ∈ bwL) (ex_pick (K := K) (i := 1) (P := fun s => s ∈ bwL) rfl (ev_q (ev_lst (ea_cons (ev_dt (α := Str) ev_str) (ea_cons (ev_dt (α := Str) ev_str) (ea_cons (ev_dt (α := Str) ev_str) ea_nil))) (by show 3 ≤ 100000; decide))) fun xs h => by subst h; exact ⟨by simp, by show 3 < 100000; decide, fun _ h => h⟩) (ev_var (i := 6) rfl rs)) s7 fun w7 W8 g8 ⟨dw, hw, rb⟩ => ?_
    have s8 : St W8 p c := g8.i
    have rm8 := rep_s g8 rm7
    obtain ⟨nw, nds, sb⟩ := bars_ok dw hw ds hs
    show tSeq _ _ _ (S1 (some vx) (some w3) (some w4) (some w5) (some w6) (some w7) v8 v9 v10 v11 v12) W8.H
    refine q_asgH ⟨_, rfl, _, rfl, _, rfl, W8, w4, w5, w7, dt, dn, dw, ds, rfl, rfl, rep_s g8 rt7, rep_s g8 rn7, rb, nw, nds, fun w8 W9 g9 r9 => ?_⟩
    have s9 : St W9 p c := s8.g g9
    have rm9 := rep_g g9 rm8
    have o9 : On W2 W9 := ((((((o3.trans g4.on).trans g5.on).trans g6.on).trans g7.on).trans g8.on).trans g9.on)
    have same := rows_same st sn (shw_of sb)
    show tSeq _ _ _ (S1 (some vx) (some w3) (some w4) (some w5) (some w6) (some w7) (some w8) v9 v10 v11 v12) W9.H
    refine q_for (ε := pur) (K := K) (W := W9) (σ := S1 (some vx) (some w3) (some w4) (some w5) (some w6) (some w7) (some w8) v9 v10 v11 v12) (xs := rowsL dt dn dw ds) (ei_list (ev_var (i := 8) rfl r9)) trivial fun W10 g10 =>
      ⟨fun i σ W' => ∃ (v9 v10 v11 v12 : Option V), σ = S1 (some vx) (some w3) (some w4) (some w5) (some w6) (some w7) (some w8) v9 v10 v11 v12 ∧ Grow W9 W' ∧ On W10 W', ⟨v9, v10, v11, v12, rfl, g10.pure, .refl _⟩, fun i σ' W' ⟨_, _, _, _, _, _, o⟩ => o, ?_, ?_⟩
    · rintro i r vr σ' W11' W11 hi hr ⟨v9, v10, v11, v12, rfl, G11', o11'⟩ g11 rr
      obtain ⟨e1, e2⟩ := same r (List.mem_of_getElem? hr)
      refine gt_t4 rr fun x1 x2 x3 x4 r1 r2 r3 r4 => ?_
      show tIfS _ _ _ _ (S1 (some vx) (some w3) (some w4) (some w5) (some w6) (some w7) (some w8) (some x1) (some x2) (some x3) (some x4)) W11.H
      refine s_when (ε := pur) (W := W11) (σ := S1 (some vx) (some w3) (some w4) (some w5) (some w6) (some w7) (some w8) (some x1) (some x2) (some x3) (some x4)) (b := false) ((et_test (ev_op (K := K) (ev_reprV (ev_var (i := 11) rfl r3) e2) (ev_reprV (ev_var (i := 12) rfl r4) (by rw [← e1]; exact e2)) ro_neS)).is (by rw [e1, decide_eq_true rfl]; rfl)) trivial (fun z => by cases z) fun _ W12 g12 => ?_
      exact ⟨W12, rfl, _, _, _, _, rfl, (G11'.trans g11).trans g12.pure, (o11'.trans g11.on).trans g12.on⟩
    rintro σ' W11 ⟨v9, v10, v11, v12, rfl, G11, _⟩
    have r11 := rep_g G11 r9
    have rm11 := rep_g G11 rm9
    show tFor _ _ _ _ (S1 (some vx) (some w3) (some w4) (some w5) (some w6) (some w7) (some w8) v9 v10 v11 v12) W11.H
    have pl : EvR pur K (tCall (sp__law_plain K) [] E0 (tCons (tVar 3) tNil)) (S1 (some vx) (some w3) (some w4) (some w5) (some w6) (some w7) (some w8) v9 v10 v11 v12) W11 plainL := fun W12 g12 Q k => ⟨_, rfl, W12, w3, dm, rfl, rfl, rep_s g12 rm11, fun u W13 g13 r => k u W13 (.of g13) r⟩
    refine s_for (ε := pur) (K := K) (W := W11) (σ := S1 (some vx) (some w3) (some w4) (some w5) (some w6) (some w7) (some w8) v9 v10 v11 v12) (xs := plainL ++ (rowsL dt dn dw ds).map (fun r => (r.a, r.b))) (ei_list (ev_op (K := K) pl (ev_lcN (K := K) (j := 13) (f := fun r : Row4 => (r.a, r.b)) (EvJ.i (ei_list (ev_var (i := 8) rfl r11))) (fun x v W' hx gg rv => ev_slQa (ev_var (i := 13) rfl rv)) (by show 11 ≤ 100000; decide)) (ro_cat (by show 15 + 11 ≤ 100000; decide)))) trivial fun W12 g12 =>
      ⟨fun i σ W' => ∃ (v9 v10 v11 v12 : Option V), σ = S1 (some vx) (some w3) (some w4) (some w5) (some w6) (some w7) (some w8) v9 v10 v11 v12 ∧ Grow W11 W' ∧ On W12 W', ⟨v9, v10, v11, v12, rfl, g12.pure, .refl _⟩, fun i σ' W' ⟨_, _, _, _, _, _, o⟩ => o, ?_, ?_⟩
    · rintro i pr vr σ' W13' W13 hi hr ⟨v9, v10, v11, v12, rfl, G13', o13'⟩ g13 rr
      obtain ⟨k1, k2⟩ := idx_ok _ (rows_idx pr (List.mem_of_getElem? hr))
      refine gt_p2 rr fun x1 x2 r1 r2 => ?_
      show tSeq _ _ _ (S1 (some vx) (some w3) (some w4) (some w5) (some w6) (some w7) (some w8) (some x1) (some x2) v11 v12) W13.H
      have kd : EvR pur K (tCall (sp__law_kinds K) [] E0 (tCons (tVar 10) tNil)) (S1 (some vx) (some w3) (some w4) (some w5) (some w6) (some w7) (some w8) (some x1) (some x2) v11 v12) W13 (kindsL pr.2.nm) := fun W14 g14 Q k => ⟨_, rfl, W14, x2, pr.2, rfl, rfl, rep_s g14 r2, k1, fun u W15 g15 r => k u W15 (.of g15) r⟩
      have rE := rf _ k1
      refine q_when (ε := pur) (W := W13) (σ := S1 (some vx) (some w3) (some w4) (some w5) (some w6) (some w7) (some w8) (some x1) (some x2) v11 v12) (b := false) ((et_or (a := false) (b := false) ((et_test (ev_op (K := K) kd (ev_lcN (K := K) (j := 14) (f := fun z : Int => decide (z = pr.1)) (EvJ.i (ei_rng1 (n := 26) ev_int (by decide) (by decide))) (fun x v W' hx gg rv => ev_op (K := K) (ev_var (i := 14) rfl rv) (ev_var (i := 9) (x := pr.1) rfl (rep_s gg r1)) ro_eqI) (by decide)) (ro_neT (by decide)))).is (by rw [k2]; exact neq_self00 _)) fun _ => (et_not (et_B (ev_isE (ev_var (i := 10) rfl r2) rE.e (fun u h => by cases h; rfl) rE.l))).is rfl).is rfl) trivial (fun z => by cases z) fun _ W14 g14 => ?_
      show tIfS _ _ _ _ (S1 (some vx) (some w3) (some w4) (some w5) (some w6) (some w7) (some w8) (some x1) (some x2) v11 v12) W14.H
      refine s_when (ε := pur) (W := W14) (σ := S1 (some vx) (some w3) (some w4) (some w5) (some w6) (some w7) (some w8) (some x1) (some x2) v11 v12) (b := false) ((et_not (et_B (ev_isE (ev_var (i := 10) rfl (rep_s g14 r2)) rE.e (fun u h => by cases h; rfl) rE.v))).is rfl) trivial (fun z => by cases z) fun _ W15 g15 => ?_
      exact ⟨W15, rfl, _, _, _, _, rfl, ((G13'.trans g13).trans g14.pure).trans g15.pure, ((o13'.trans g13.on).trans g14.on).trans g15.on⟩
    · rintro σ' W13 ⟨v9, v10, v11, v12, rfl, G13, _⟩
      exact ⟨W13, rfl, _, _, _, _, _, _, _, _, _, _, _, rfl, ((o9.trans G11.on).trans G13.on), (s9.g G11).g G13⟩
  · rintro σ' W3 ⟨v2, v3, v4, v5, v6, v7, v8, v9, v10, v11, v12, rfl, o3, s3⟩
    exact k _
end
end B
namespace B
open PySem L2 PyProof.Rows PySem.Spec
open Evl (Ex)
def relS (scope sc : Scope) : Scope := { scope with names := scope.names.map fun (n, k) => if (k == .free && sc.kind == .function && sc.names.lookup n == some .cell) then (n, .cell) else (n, k) }
theorem blkOk_in {X : Cx} {N : List Str} {scO sc scope : Scope} {own : List (Str × Nat)} {s : Shared} {H : Hp} {C : Addr} {cl : List (Str × Addr)} {fp : List Addr} (hN : X.N = N) (hsc : X.env.scope = sc) (h : blkC N (relS scO sc) scope own = true) : BlkOk (X.blk s H scO (compEnvC scO cl C X.env) fp).N (X.blk s H scO (compEnvC scO cl C X.env) fp).env.scope scope own := by
  subst hN hsc
  exact blkOk_by h
def topS (i : Nat) : Stmt := PySem.Challenge.pw_bygone_k00_refusals_made.main.body.getD i (.Pass ⟨0, 0, 0, 0⟩)
/-! NoLetter.__init__ -/
abbrev s_NoLetter___init__ : Stmt := inClass (topS 3) 0
theorem sc_NoLetter___init__ : FnScope n_NoLetter___init__ ["self", "name"] (defScope s_NoLetter___init__) := ⟨rfl, rfl, rfl, by decide +kernel, rfl, by decide +kernel, by decide +kernel⟩
/-! NoFeed.__init__ -/
abbrev s_NoFeed___init__ : Stmt := inClass (topS 4) 0
theorem sc_NoFeed___init__ : FnScope n_NoFeed___init__ ["self", "at"] (defScope s_NoFeed___init__) := ⟨rfl, rfl, rfl, by decide +kernel, rfl, by decide +kernel, by decide +kernel⟩
/-! NoPast.__init__ -/
abbrev s_NoPast___init__ : Stmt := inClass (topS 9) 0
theorem sc_NoPast___init__ : FnScope n_NoPast___init__ ["self", "at"] (defScope s_NoPast___init__) := ⟨rfl, rfl, rfl, by decide +kernel, rfl, by decide +kernel, by decide +kernel⟩
/-! NoFact.__init__ -/
abbrev s_NoFact___init__ : Stmt := inClass (topS 11) 0
theorem sc_NoFact___init__ : FnScope n_NoFact___init__ ["self", "at"] (defScope s_NoFact___init__) := ⟨rfl, rfl, rfl, by decide +kernel, rfl, by decide +kernel, by decide +kernel⟩
/-! Barred.__init__ -/
abbrev s_Barred___init__ : Stmt := inClass (topS 12) 0
theorem sc_Barred___init__ : FnScope n_Barred___init__ ["self", "word", "some"] (defScope s_Barred___init__) := ⟨rfl, rfl, rfl, by decide +kernel, rfl, by decide +kernel, by decide +kernel⟩
/-! TooMany.__init__ -/
abbrev s_TooMany___init__ : Stmt := inClass (topS 16) 0
theorem sc_TooMany___init__ : FnScope n_TooMany___init__ ["self", "limit"] (defScope s_TooMany___init__) := ⟨rfl, rfl, rfl, by decide +kernel, rfl, by decide +kernel, by decide +kernel⟩
/-! NoTick.__init__ -/
abbrev s_NoTick___init__ : Stmt := inClass (topS 21) 0
theorem sc_NoTick___init__ : FnScope n_NoTick___init__ ["self", "at"] (defScope s_NoTick___init__) := ⟨rfl, rfl, rfl, by decide +kernel, rfl, by decide +kernel, by decide +kernel⟩
/-! NoName.__init__ -/
abbrev s_NoName___init__ : Stmt := inClass (topS 24) 0
theorem sc_NoName___init__ : FnScope n_NoName___init__ ["self", "name"] (defScope s_NoName___init__) := ⟨rfl, rfl, rfl, by decide +kernel, rfl, by decide +kernel, by decide +kernel⟩
/-! Broken.__init__ -/
abbrev s_Broken___init__ : Stmt := inClass (topS 25) 0
theorem sc_Broken___init__ : FnScope n_Broken___init__ ["self", "at"] (defScope s_Broken___init__) := ⟨rfl, rfl, rfl, by decide +kernel, rfl, by decide +kernel, by decide +kernel⟩
/-! NoLog.__init__ -/
abbrev s_NoLog___init__ : Stmt := inClass (topS 26) 0
theorem sc_NoLog___init__ : FnScope n_NoLog___init__ ["self", "at"] (defScope s_NoLog___init__) := ⟨rfl, rfl, rfl, by decide +kernel, rfl, by decide +kernel, by decide +kernel⟩
/-! NoText.__init__ -/
abbrev s_NoText___init__ : Stmt := inClass (topS 27) 0
theorem sc_NoText___init__ : FnScope n_NoText___init__ ["self", "row"] (defScope s_NoText___init__) := ⟨rfl, rfl, rfl, by decide +kernel, rfl, by decide +kernel, by decide +kernel⟩
/-! _law_begun -/
abbrev s__law_begun : Stmt := topS 29
theorem sc__law_begun : FnScope n__law_begun ["_law_script"] (defScope s__law_begun) := ⟨rfl, rfl, rfl, by decide +kernel, rfl, by decide +kernel, by decide +kernel⟩
/-! _law_draw -/
abbrev s__law_draw : Stmt := topS 30
theorem sc__law_draw : FnScope n__law_draw ["_law_state", "_law_many"] (defScope s__law_draw) := ⟨rfl, rfl, rfl, by decide +kernel, rfl, by decide +kernel, by decide +kernel⟩
/-! _law_pick -/
abbrev s__law_pick : Stmt := topS 31
theorem sc__law_pick : FnScope n__law_pick ["_law_state", "_law_some"] (defScope s__law_pick) := ⟨rfl, rfl, rfl, by decide +kernel, rfl, by decide +kernel, by decide +kernel⟩
/-! _law_kinds -/
abbrev s__law_kinds : Stmt := topS 32
theorem sc__law_kinds : FnScope n__law_kinds ["_law_e"] (defScope s__law_kinds) := ⟨rfl, rfl, rfl, by decide +kernel, rfl, by decide +kernel, by decide +kernel⟩
/-! _law_plain -/
abbrev s__law_plain : Stmt := topS 33
theorem sc__law_plain : FnScope n__law_plain ["_law_matter"] (defScope s__law_plain) := ⟨rfl, rfl, rfl, by decide +kernel, rfl, by decide +kernel, by decide +kernel⟩
/-! _law_fielded -/
abbrev s__law_fielded : Stmt := topS 34
theorem sc__law_fielded : FnScope n__law_fielded ["_law_thing", "_law_number", "_law_bar"] (defScope s__law_fielded) := ⟨rfl, rfl, rfl, by decide +kernel, rfl, by decide +kernel, by decide +kernel⟩
/-! law -/
abbrev s_law : Stmt := topS 35
theorem sc_law : FnScope n_law ["_law_script"] (defScope s_law) := ⟨rfl, rfl, rfl, by decide +kernel, rfl, by decide +kernel, by decide +kernel⟩

structure Tx (K : Fg) (mg : Str → Option Value) where
  m_abs : mg "abs" = none
  m_len : mg "len" = none
  m_isinstance : mg "isinstance" = none
  m_range : mg "range" = none
  m_repr : mg "repr" = none
  m_ValueError : mg "ValueError" = none
  f_NoLetter___init__ : Addr
  d_NoLetter___init__ : FuncData
  F_NoLetter___init__ : Fun K "__init__" "NoLetter.__init__" s_NoLetter___init__ f_NoLetter___init__ d_NoLetter___init__
  b_NoLetter___init__ : Binds K d_NoLetter___init__ ["self", "name"] []
  f_NoFeed___init__ : Addr
  d_NoFeed___init__ : FuncData
  F_NoFeed___init__ : Fun K "__init__" "NoFeed.__init__" s_NoFeed___init__ f_NoFeed___init__ d_NoFeed___init__
  b_NoFeed___init__ : Binds K d_NoFeed___init__ ["self", "at"] []
  f_NoPast___init__ : Addr
  d_NoPast___init__ : FuncData
  F_NoPast___init__ : Fun K "__init__" "NoPast.__init__" s_NoPast___init__ f_NoPast___init__ d_NoPast___init__
  b_NoPast___init__ : Binds K d_NoPast___init__ ["self", "at"] []
  f_NoFact___init__ : Addr
  d_NoFact___init__ : FuncData
  F_NoFact___init__ : Fun K "__init__" "NoFact.__init__" s_NoFact___init__ f_NoFact___init__ d_NoFact___init__
  b_NoFact___init__ : Binds K d_NoFact___init__ ["self", "at"] []
  f_Barred___init__ : Addr
  d_Barred___init__ : FuncData
  F_Barred___init__ : Fun K "__init__" "Barred.__init__" s_Barred___init__ f_Barred___init__ d_Barred___init__
  b_Barred___init__ : Binds K d_Barred___init__ ["self", "word", "some"] []
  f_TooMany___init__ : Addr
  d_TooMany___init__ : FuncData
  F_TooMany___init__ : Fun K "__init__" "TooMany.__init__" s_TooMany___init__ f_TooMany___init__ d_TooMany___init__
  b_TooMany___init__ : Binds K d_TooMany___init__ ["self", "limit"] []
  f_NoTick___init__ : Addr
  d_NoTick___init__ : FuncData
  F_NoTick___init__ : Fun K "__init__" "NoTick.__init__" s_NoTick___init__ f_NoTick___init__ d_NoTick___init__
  b_NoTick___init__ : Binds K d_NoTick___init__ ["self", "at"] []
  f_NoName___init__ : Addr
  d_NoName___init__ : FuncData
  F_NoName___init__ : Fun K "__init__" "NoName.__init__" s_NoName___init__ f_NoName___init__ d_NoName___init__
  b_NoName___init__ : Binds K d_NoName___init__ ["self", "name"] []
  f_Broken___init__ : Addr
  d_Broken___init__ : FuncData
  F_Broken___init__ : Fun K "__init__" "Broken.__init__" s_Broken___init__ f_Broken___init__ d_Broken___init__
  b_Broken___init__ : Binds K d_Broken___init__ ["self", "at"] []
  f_NoLog___init__ : Addr
  d_NoLog___init__ : FuncData
  F_NoLog___init__ : Fun K "__init__" "NoLog.__init__" s_NoLog___init__ f_NoLog___init__ d_NoLog___init__
  b_NoLog___init__ : Binds K d_NoLog___init__ ["self", "at"] []
  f_NoText___init__ : Addr
  d_NoText___init__ : FuncData
  F_NoText___init__ : Fun K "__init__" "NoText.__init__" s_NoText___init__ f_NoText___init__ d_NoText___init__
  b_NoText___init__ : Binds K d_NoText___init__ ["self", "row"] []
  f__law_begun : Addr
  d__law_begun : FuncData
  F__law_begun : Fun K "_law_begun" "_law_begun" s__law_begun f__law_begun d__law_begun
  b__law_begun : Binds K d__law_begun ["_law_script"] []
  g__law_begun : mg "_law_begun" = some (.ref f__law_begun)
  f__law_draw : Addr
  d__law_draw : FuncData
  F__law_draw : Fun K "_law_draw" "_law_draw" s__law_draw f__law_draw d__law_draw
  b__law_draw : Binds K d__law_draw ["_law_state", "_law_many"] []
  g__law_draw : mg "_law_draw" = some (.ref f__law_draw)
  f__law_pick : Addr
  d__law_pick : FuncData
  F__law_pick : Fun K "_law_pick" "_law_pick" s__law_pick f__law_pick d__law_pick
  b__law_pick : Binds K d__law_pick ["_law_state", "_law_some"] []
  g__law_pick : mg "_law_pick" = some (.ref f__law_pick)
  f__law_kinds : Addr
  d__law_kinds : FuncData
  F__law_kinds : Fun K "_law_kinds" "_law_kinds" s__law_kinds f__law_kinds d__law_kinds
  b__law_kinds : Binds K d__law_kinds ["_law_e"] []
  g__law_kinds : mg "_law_kinds" = some (.ref f__law_kinds)
  f__law_plain : Addr
  d__law_plain : FuncData
  F__law_plain : Fun K "_law_plain" "_law_plain" s__law_plain f__law_plain d__law_plain
  b__law_plain : Binds K d__law_plain ["_law_matter"] []
  g__law_plain : mg "_law_plain" = some (.ref f__law_plain)
  f__law_fielded : Addr
  d__law_fielded : FuncData
  F__law_fielded : Fun K "_law_fielded" "_law_fielded" s__law_fielded f__law_fielded d__law_fielded
  b__law_fielded : Binds K d__law_fielded ["_law_thing", "_law_number", "_law_bar"] []
  g__law_fielded : mg "_law_fielded" = some (.ref f__law_fielded)
  f_law : Addr
  d_law : FuncData
  F_law : Fun K "law" "law" s_law f_law d_law
  g_Barred : mg "Barred" = some (.ref (cErr K "Barred"))
  g_Broken : mg "Broken" = some (.ref (cErr K "Broken"))
  g_LeftError : mg "LeftError" = some (.ref (cErr K "LeftError"))
  g_NoAsking : mg "NoAsking" = some (.ref (cErr K "NoAsking"))
  g_NoCount : mg "NoCount" = some (.ref (cErr K "NoCount"))
  g_NoDeed : mg "NoDeed" = some (.ref (cErr K "NoDeed"))
  g_NoFact : mg "NoFact" = some (.ref (cErr K "NoFact"))
  g_NoFeed : mg "NoFeed" = some (.ref (cErr K "NoFeed"))
  g_NoKeeper : mg "NoKeeper" = some (.ref (cErr K "NoKeeper"))
  g_NoLetter : mg "NoLetter" = some (.ref (cErr K "NoLetter"))
  g_NoLetters : mg "NoLetters" = some (.ref (cErr K "NoLetters"))
  g_NoLog : mg "NoLog" = some (.ref (cErr K "NoLog"))
  g_NoMany : mg "NoMany" = some (.ref (cErr K "NoMany"))
  g_NoName : mg "NoName" = some (.ref (cErr K "NoName"))
  g_NoNumber : mg "NoNumber" = some (.ref (cErr K "NoNumber"))
  g_NoPaper : mg "NoPaper" = some (.ref (cErr K "NoPaper"))
  g_NoPast : mg "NoPast" = some (.ref (cErr K "NoPast"))
  g_NoRank : mg "NoRank" = some (.ref (cErr K "NoRank"))
  g_NoSize : mg "NoSize" = some (.ref (cErr K "NoSize"))
  g_NoSum : mg "NoSum" = some (.ref (cErr K "NoSum"))
  g_NoTally : mg "NoTally" = some (.ref (cErr K "NoTally"))
  g_NoText : mg "NoText" = some (.ref (cErr K "NoText"))
  g_NoTick : mg "NoTick" = some (.ref (cErr K "NoTick"))
  g_NoTimes : mg "NoTimes" = some (.ref (cErr K "NoTimes"))
  g_NoTruth : mg "NoTruth" = some (.ref (cErr K "NoTruth"))
  g_NoWeights : mg "NoWeights" = some (.ref (cErr K "NoWeights"))
  g_TooMany : mg "TooMany" = some (.ref (cErr K "TooMany"))
  rc_NoAsking : BX.ErrC K (cErr K "NoAsking")
  rc_NoCount : BX.ErrC K (cErr K "NoCount")
  rc_NoDeed : BX.ErrC K (cErr K "NoDeed")
  rc_NoKeeper : BX.ErrC K (cErr K "NoKeeper")
  rc_NoLetters : BX.ErrC K (cErr K "NoLetters")
  rc_NoMany : BX.ErrC K (cErr K "NoMany")
  rc_NoNumber : BX.ErrC K (cErr K "NoNumber")
  rc_NoPaper : BX.ErrC K (cErr K "NoPaper")
  rc_NoRank : BX.ErrC K (cErr K "NoRank")
  rc_NoSize : BX.ErrC K (cErr K "NoSize")
  rc_NoSum : BX.ErrC K (cErr K "NoSum")
  rc_NoTally : BX.ErrC K (cErr K "NoTally")
  rc_NoTimes : BX.ErrC K (cErr K "NoTimes")
  rc_NoTruth : BX.ErrC K (cErr K "NoTruth")
  rc_NoWeights : BX.ErrC K (cErr K "NoWeights")
  ri_Barred : OexC K (cErr K "Barred")
  ii_Barred : PySem.W.findIn K (.ref (cErr K "Barred")) "__init__" = some (some (.ref f_Barred___init__))
  ti_Barred : PySem.W.typeIn K (.ref f_Barred___init__) = some (.type "function")
  ri_Broken : OexC K (cErr K "Broken")
  ii_Broken : PySem.W.findIn K (.ref (cErr K "Broken")) "__init__" = some (some (.ref f_Broken___init__))
  ti_Broken : PySem.W.typeIn K (.ref f_Broken___init__) = some (.type "function")
  ri_NoFact : OexC K (cErr K "NoFact")
  ii_NoFact : PySem.W.findIn K (.ref (cErr K "NoFact")) "__init__" = some (some (.ref f_NoFact___init__))
  ti_NoFact : PySem.W.typeIn K (.ref f_NoFact___init__) = some (.type "function")
  ri_NoFeed : OexC K (cErr K "NoFeed")
  ii_NoFeed : PySem.W.findIn K (.ref (cErr K "NoFeed")) "__init__" = some (some (.ref f_NoFeed___init__))
  ti_NoFeed : PySem.W.typeIn K (.ref f_NoFeed___init__) = some (.type "function")
  ri_NoLetter : OexC K (cErr K "NoLetter")
  ii_NoLetter : PySem.W.findIn K (.ref (cErr K "NoLetter")) "__init__" = some (some (.ref f_NoLetter___init__))
  ti_NoLetter : PySem.W.typeIn K (.ref f_NoLetter___init__) = some (.type "function")
  ri_NoLog : OexC K (cErr K "NoLog")
  ii_NoLog : PySem.W.findIn K (.ref (cErr K "NoLog")) "__init__" = some (some (.ref f_NoLog___init__))
  ti_NoLog : PySem.W.typeIn K (.ref f_NoLog___init__) = some (.type "function")
  ri_NoName : OexC K (cErr K "NoName")
  ii_NoName : PySem.W.findIn K (.ref (cErr K "NoName")) "__init__" = some (some (.ref f_NoName___init__))
  ti_NoName : PySem.W.typeIn K (.ref f_NoName___init__) = some (.type "function")
  ri_NoPast : OexC K (cErr K "NoPast")
  ii_NoPast : PySem.W.findIn K (.ref (cErr K "NoPast")) "__init__" = some (some (.ref f_NoPast___init__))
  ti_NoPast : PySem.W.typeIn K (.ref f_NoPast___init__) = some (.type "function")
  ri_NoText : OexC K (cErr K "NoText")
  ii_NoText : PySem.W.findIn K (.ref (cErr K "NoText")) "__init__" = some (some (.ref f_NoText___init__))
  ti_NoText : PySem.W.typeIn K (.ref f_NoText___init__) = some (.type "function")
  ri_NoTick : OexC K (cErr K "NoTick")
  ii_NoTick : PySem.W.findIn K (.ref (cErr K "NoTick")) "__init__" = some (some (.ref f_NoTick___init__))
  ti_NoTick : PySem.W.typeIn K (.ref f_NoTick___init__) = some (.type "function")
  ri_TooMany : OexC K (cErr K "TooMany")
  ii_TooMany : PySem.W.findIn K (.ref (cErr K "TooMany")) "__init__" = some (some (.ref f_TooMany___init__))
  ti_TooMany : PySem.W.typeIn K (.ref f_TooMany___init__) = some (.type "function")
  xo_Barred_some : PySem.W.findIn K (.ref (cErr K "Barred")) "some" = some none
  xo_Barred_word : PySem.W.findIn K (.ref (cErr K "Barred")) "word" = some none
  xo_Broken_at : PySem.W.findIn K (.ref (cErr K "Broken")) "at" = some none
  xo_NoFact_at : PySem.W.findIn K (.ref (cErr K "NoFact")) "at" = some none
  xo_NoFeed_at : PySem.W.findIn K (.ref (cErr K "NoFeed")) "at" = some none
  xo_NoLetter_name : PySem.W.findIn K (.ref (cErr K "NoLetter")) "name" = some none
  xo_NoLog_at : PySem.W.findIn K (.ref (cErr K "NoLog")) "at" = some none
  xo_NoName_name : PySem.W.findIn K (.ref (cErr K "NoName")) "name" = some none
  xo_NoPast_at : PySem.W.findIn K (.ref (cErr K "NoPast")) "at" = some none
  xo_NoText_row : PySem.W.findIn K (.ref (cErr K "NoText")) "row" = some none
  xo_NoTick_at : PySem.W.findIn K (.ref (cErr K "NoTick")) "at" = some none
  xo_TooMany_limit : PySem.W.findIn K (.ref (cErr K "TooMany")) "limit" = some none
  xf_Barred : XfC K (cErr K "Barred")
  xe_Barred : PySem.W.exmOne K (.ref (cErr K "Barred")) (.ref (cErr K "Barred")) = some true
  xf_Broken : XfC K (cErr K "Broken")
  xe_Broken : PySem.W.exmOne K (.ref (cErr K "Broken")) (.ref (cErr K "Broken")) = some true
  xf_NoFact : XfC K (cErr K "NoFact")
  xe_NoFact : PySem.W.exmOne K (.ref (cErr K "NoFact")) (.ref (cErr K "NoFact")) = some true
  xf_NoFeed : XfC K (cErr K "NoFeed")
  xe_NoFeed : PySem.W.exmOne K (.ref (cErr K "NoFeed")) (.ref (cErr K "NoFeed")) = some true
  xf_NoLetter : XfC K (cErr K "NoLetter")
  xe_NoLetter : PySem.W.exmOne K (.ref (cErr K "NoLetter")) (.ref (cErr K "NoLetter")) = some true
  xf_NoLog : XfC K (cErr K "NoLog")
  xe_NoLog : PySem.W.exmOne K (.ref (cErr K "NoLog")) (.ref (cErr K "NoLog")) = some true
  xf_NoName : XfC K (cErr K "NoName")
  xe_NoName : PySem.W.exmOne K (.ref (cErr K "NoName")) (.ref (cErr K "NoName")) = some true
  xf_NoPast : XfC K (cErr K "NoPast")
  xe_NoPast : PySem.W.exmOne K (.ref (cErr K "NoPast")) (.ref (cErr K "NoPast")) = some true
  xf_NoText : XfC K (cErr K "NoText")
  xe_NoText : PySem.W.exmOne K (.ref (cErr K "NoText")) (.ref (cErr K "NoText")) = some true
  xf_NoTick : XfC K (cErr K "NoTick")
  xe_NoTick : PySem.W.exmOne K (.ref (cErr K "NoTick")) (.ref (cErr K "NoTick")) = some true
  xf_TooMany : XfC K (cErr K "TooMany")
  xe_TooMany : PySem.W.exmOne K (.ref (cErr K "TooMany")) (.ref (cErr K "TooMany")) = some true
  rf_all : ∀ n ∈ names26, Refd K n

section
variable {P : Program} {w : World} {K : Fg} {mg : Str → Option Value} {base : Heap}
theorem der_NoLetter___init__ (T : Tx K mg) {cdv : Value} {A : Around} {outer : List Env} {s : Shared} {H : Hp} {E : XK} (hr : Room 0 (A.deeper (envOfC "NoLetter.__init__" (defScope s_NoLetter___init__) s.heap.objs.size T.f_NoLetter___init__ cdv))) :
    PSs (cxOf CX0 P w K mg base n_NoLetter___init__ "NoLetter.__init__" (defScope s_NoLetter___init__) T.f_NoLetter___init__ cdv A outer s H E).nox (defBody s_NoLetter___init__) (t_NoLetter___init__ K) :=
  have nd := sc_NoLetter___init__.nd
  (pss_one (ps_ost (pv 0) (pv 1)))
theorem ok_NoLetter___init__ (T : Tx K mg) : FnOk P w K mg base CX0 1 T.f_NoLetter___init__ T.d_NoLetter___init__ ["self", "name"] (sp_NoLetter___init__ K) :=
  T.F_NoLetter___init__.ok sc_NoLetter___init__ (fun vs H Q E h => len_NoLetter___init__ h) (fun cdv A outer s H vs Q E hr h => ⟨t_NoLetter___init__ K, der_NoLetter___init__ T hr, rd_NoLetter___init__ T.ri_NoLetter T.xo_NoLetter_name h⟩)
theorem der_NoFeed___init__ (T : Tx K mg) {cdv : Value} {A : Around} {outer : List Env} {s : Shared} {H : Hp} {E : XK} (hr : Room 0 (A.deeper (envOfC "NoFeed.__init__" (defScope s_NoFeed___init__) s.heap.objs.size T.f_NoFeed___init__ cdv))) :
    PSs (cxOf CX0 P w K mg base n_NoFeed___init__ "NoFeed.__init__" (defScope s_NoFeed___init__) T.f_NoFeed___init__ cdv A outer s H E).nox (defBody s_NoFeed___init__) (t_NoFeed___init__ K) :=
  have nd := sc_NoFeed___init__.nd
  (pss_one (ps_ost (pv 0) (pv 1)))
theorem ok_NoFeed___init__ (T : Tx K mg) : FnOk P w K mg base CX0 1 T.f_NoFeed___init__ T.d_NoFeed___init__ ["self", "at"] (sp_NoFeed___init__ K) :=
  T.F_NoFeed___init__.ok sc_NoFeed___init__ (fun vs H Q E h => len_NoFeed___init__ h) (fun cdv A outer s H vs Q E hr h => ⟨t_NoFeed___init__ K, der_NoFeed___init__ T hr, rd_NoFeed___init__ T.ri_NoFeed T.xo_NoFeed_at h⟩)
theorem der_NoPast___init__ (T : Tx K mg) {cdv : Value} {A : Around} {outer : List Env} {s : Shared} {H : Hp} {E : XK} (hr : Room 0 (A.deeper (envOfC "NoPast.__init__" (defScope s_NoPast___init__) s.heap.objs.size T.f_NoPast___init__ cdv))) :
    PSs (cxOf CX0 P w K mg base n_NoPast___init__ "NoPast.__init__" (defScope s_NoPast___init__) T.f_NoPast___init__ cdv A outer s H E).nox (defBody s_NoPast___init__) (t_NoPast___init__ K) :=
  have nd := sc_NoPast___init__.nd
  (pss_one (ps_ost (pv 0) (pv 1)))
theorem ok_NoPast___init__ (T : Tx K mg) : FnOk P w K mg base CX0 1 T.f_NoPast___init__ T.d_NoPast___init__ ["self", "at"] (sp_NoPast___init__ K) :=
  T.F_NoPast___init__.ok sc_NoPast___init__ (fun vs H Q E h => len_NoPast___init__ h) (fun cdv A outer s H vs Q E hr h => ⟨t_NoPast___init__ K, der_NoPast___init__ T hr, rd_NoPast___init__ T.ri_NoPast T.xo_NoPast_at h⟩)
theorem der_NoFact___init__ (T : Tx K mg) {cdv : Value} {A : Around} {outer : List Env} {s : Shared} {H : Hp} {E : XK} (hr : Room 0 (A.deeper (envOfC "NoFact.__init__" (defScope s_NoFact___init__) s.heap.objs.size T.f_NoFact___init__ cdv))) :
    PSs (cxOf CX0 P w K mg base n_NoFact___init__ "NoFact.__init__" (defScope s_NoFact___init__) T.f_NoFact___init__ cdv A outer s H E).nox (defBody s_NoFact___init__) (t_NoFact___init__ K) :=
  have nd := sc_NoFact___init__.nd
  (pss_one (ps_ost (pv 0) (pv 1)))
theorem ok_NoFact___init__ (T : Tx K mg) : FnOk P w K mg base CX0 1 T.f_NoFact___init__ T.d_NoFact___init__ ["self", "at"] (sp_NoFact___init__ K) :=
  T.F_NoFact___init__.ok sc_NoFact___init__ (fun vs H Q E h => len_NoFact___init__ h) (fun cdv A outer s H vs Q E hr h => ⟨t_NoFact___init__ K, der_NoFact___init__ T hr, rd_NoFact___init__ T.ri_NoFact T.xo_NoFact_at h⟩)
theorem der_Barred___init__ (T : Tx K mg) {cdv : Value} {A : Around} {outer : List Env} {s : Shared} {H : Hp} {E : XK} (hr : Room 0 (A.deeper (envOfC "Barred.__init__" (defScope s_Barred___init__) s.heap.objs.size T.f_Barred___init__ cdv))) :
    PSs (cxOf CX0 P w K mg base n_Barred___init__ "Barred.__init__" (defScope s_Barred___init__) T.f_Barred___init__ cdv A outer s H E).nox (defBody s_Barred___init__) (t_Barred___init__ K) :=
  have nd := sc_Barred___init__.nd
  (pss_cons (ps_ost (pv 0) (pv 1))
  (pss_one (ps_ost (pv 0) (pv 2))))
theorem ok_Barred___init__ (T : Tx K mg) : FnOk P w K mg base CX0 1 T.f_Barred___init__ T.d_Barred___init__ ["self", "word", "some"] (sp_Barred___init__ K) :=
  T.F_Barred___init__.ok sc_Barred___init__ (fun vs H Q E h => len_Barred___init__ h) (fun cdv A outer s H vs Q E hr h => ⟨t_Barred___init__ K, der_Barred___init__ T hr, rd_Barred___init__ T.ri_Barred T.xo_Barred_word T.xo_Barred_some h⟩)
theorem der_TooMany___init__ (T : Tx K mg) {cdv : Value} {A : Around} {outer : List Env} {s : Shared} {H : Hp} {E : XK} (hr : Room 0 (A.deeper (envOfC "TooMany.__init__" (defScope s_TooMany___init__) s.heap.objs.size T.f_TooMany___init__ cdv))) :
    PSs (cxOf CX0 P w K mg base n_TooMany___init__ "TooMany.__init__" (defScope s_TooMany___init__) T.f_TooMany___init__ cdv A outer s H E).nox (defBody s_TooMany___init__) (t_TooMany___init__ K) :=
  have nd := sc_TooMany___init__.nd
  (pss_one (ps_ost (pv 0) (pv 1)))
theorem ok_TooMany___init__ (T : Tx K mg) : FnOk P w K mg base CX0 1 T.f_TooMany___init__ T.d_TooMany___init__ ["self", "limit"] (sp_TooMany___init__ K) :=
  T.F_TooMany___init__.ok sc_TooMany___init__ (fun vs H Q E h => len_TooMany___init__ h) (fun cdv A outer s H vs Q E hr h => ⟨t_TooMany___init__ K, der_TooMany___init__ T hr, rd_TooMany___init__ T.ri_TooMany T.xo_TooMany_limit h⟩)
theorem der_NoTick___init__ (T : Tx K mg) {cdv : Value} {A : Around} {outer : List Env} {s : Shared} {H : Hp} {E : XK} (hr : Room 0 (A.deeper (envOfC "NoTick.__init__" (defScope s_NoTick___init__) s.heap.objs.size T.f_NoTick___init__ cdv))) :
    PSs (cxOf CX0 P w K mg base n_NoTick___init__ "NoTick.__init__" (defScope s_NoTick___init__) T.f_NoTick___init__ cdv A outer s H E).nox (defBody s_NoTick___init__) (t_NoTick___init__ K) :=
  have nd := sc_NoTick___init__.nd
  (pss_one (ps_ost (pv 0) (pv 1)))
theorem ok_NoTick___init__ (T : Tx K mg) : FnOk P w K mg base CX0 1 T.f_NoTick___init__ T.d_NoTick___init__ ["self", "at"] (sp_NoTick___init__ K) :=
  T.F_NoTick___init__.ok sc_NoTick___init__ (fun vs H Q E h => len_NoTick___init__ h) (fun cdv A outer s H vs Q E hr h => ⟨t_NoTick___init__ K, der_NoTick___init__ T hr, rd_NoTick___init__ T.ri_NoTick T.xo_NoTick_at h⟩)
theorem der_NoName___init__ (T : Tx K mg) {cdv : Value} {A : Around} {outer : List Env} {s : Shared} {H : Hp} {E : XK} (hr : Room 0 (A.deeper (envOfC "NoName.__init__" (defScope s_NoName___init__) s.heap.objs.size T.f_NoName___init__ cdv))) :
    PSs (cxOf CX0 P w K mg base n_NoName___init__ "NoName.__init__" (defScope s_NoName___init__) T.f_NoName___init__ cdv A outer s H E).nox (defBody s_NoName___init__) (t_NoName___init__ K) :=
  have nd := sc_NoName___init__.nd
  (pss_one (ps_ost (pv 0) (pv 1)))
theorem ok_NoName___init__ (T : Tx K mg) : FnOk P w K mg base CX0 1 T.f_NoName___init__ T.d_NoName___init__ ["self", "name"] (sp_NoName___init__ K) :=
  T.F_NoName___init__.ok sc_NoName___init__ (fun vs H Q E h => len_NoName___init__ h) (fun cdv A outer s H vs Q E hr h => ⟨t_NoName___init__ K, der_NoName___init__ T hr, rd_NoName___init__ T.ri_NoName T.xo_NoName_name h⟩)
theorem der_Broken___init__ (T : Tx K mg) {cdv : Value} {A : Around} {outer : List Env} {s : Shared} {H : Hp} {E : XK} (hr : Room 0 (A.deeper (envOfC "Broken.__init__" (defScope s_Broken___init__) s.heap.objs.size T.f_Broken___init__ cdv))) :
    PSs (cxOf CX0 P w K mg base n_Broken___init__ "Broken.__init__" (defScope s_Broken___init__) T.f_Broken___init__ cdv A outer s H E).nox (defBody s_Broken___init__) (t_Broken___init__ K) :=
  have nd := sc_Broken___init__.nd
  (pss_one (ps_ost (pv 0) (pv 1)))
theorem ok_Broken___init__ (T : Tx K mg) : FnOk P w K mg base CX0 1 T.f_Broken___init__ T.d_Broken___init__ ["self", "at"] (sp_Broken___init__ K) :=
  T.F_Broken___init__.ok sc_Broken___init__ (fun vs H Q E h => len_Broken___init__ h) (fun cdv A outer s H vs Q E hr h => ⟨t_Broken___init__ K, der_Broken___init__ T hr, rd_Broken___init__ T.ri_Broken T.xo_Broken_at h⟩)
theorem der_NoLog___init__ (T : Tx K mg) {cdv : Value} {A : Around} {outer : List Env} {s : Shared} {H : Hp} {E : XK} (hr : Room 0 (A.deeper (envOfC "NoLog.__init__" (defScope s_NoLog___init__) s.heap.objs.size T.f_NoLog___init__ cdv))) :
    PSs (cxOf CX0 P w K mg base n_NoLog___init__ "NoLog.__init__" (defScope s_NoLog___init__) T.f_NoLog___init__ cdv A outer s H E).nox (defBody s_NoLog___init__) (t_NoLog___init__ K) :=
  have nd := sc_NoLog___init__.nd
  (pss_one (ps_ost (pv 0) (pv 1)))
theorem ok_NoLog___init__ (T : Tx K mg) : FnOk P w K mg base CX0 1 T.f_NoLog___init__ T.d_NoLog___init__ ["self", "at"] (sp_NoLog___init__ K) :=
  T.F_NoLog___init__.ok sc_NoLog___init__ (fun vs H Q E h => len_NoLog___init__ h) (fun cdv A outer s H vs Q E hr h => ⟨t_NoLog___init__ K, der_NoLog___init__ T hr, rd_NoLog___init__ T.ri_NoLog T.xo_NoLog_at h⟩)
theorem der_NoText___init__ (T : Tx K mg) {cdv : Value} {A : Around} {outer : List Env} {s : Shared} {H : Hp} {E : XK} (hr : Room 0 (A.deeper (envOfC "NoText.__init__" (defScope s_NoText___init__) s.heap.objs.size T.f_NoText___init__ cdv))) :
    PSs (cxOf CX0 P w K mg base n_NoText___init__ "NoText.__init__" (defScope s_NoText___init__) T.f_NoText___init__ cdv A outer s H E).nox (defBody s_NoText___init__) (t_NoText___init__ K) :=
  have nd := sc_NoText___init__.nd
  (pss_one (ps_ost (pv 0) (pv 1)))
theorem ok_NoText___init__ (T : Tx K mg) : FnOk P w K mg base CX0 1 T.f_NoText___init__ T.d_NoText___init__ ["self", "row"] (sp_NoText___init__ K) :=
  T.F_NoText___init__.ok sc_NoText___init__ (fun vs H Q E h => len_NoText___init__ h) (fun cdv A outer s H vs Q E hr h => ⟨t_NoText___init__ K, der_NoText___init__ T hr, rd_NoText___init__ T.ri_NoText T.xo_NoText_row h⟩)
theorem der__law_begun (T : Tx K mg) {cdv : Value} {A : Around} {outer : List Env} {s : Shared} {H : Hp} {E : XK} (hr : Room 0 (A.deeper (envOfC "_law_begun" (defScope s__law_begun) s.heap.objs.size T.f__law_begun cdv))) :
    PSs (cxOf CX0 P w K mg base n__law_begun "_law_begun" (defScope s__law_begun) T.f__law_begun cdv A outer s H E).nox (defBody s__law_begun) (t__law_begun K) :=
  have nd := sc__law_begun.nd
  (pss_cons (ps_setLc (i := 1) (own := [("_law_cell", 2)]) rfl nd rfl rfl (sw_true rfl rfl rfl (by decide +kernel)) (pi_list (pv 0)) (blkOk_by (own := [("_law_cell", 2)]) (N := n__law_begun) (sc := defScope s__law_begun) (by decide +kernel)) (fun _ _ _ _ _ => (pg_name (i := 2) nd rfl (by first | exact Or.inl rfl | exact Or.inr rfl))) (fun _ _ _ _ _ => pts_nil) (fun _ _ _ _ _ => (pe_callB cr_abs (by rfl) T.m_abs (by decide +kernel) (pa_cons (pv 2) pa_nil))))
  (pss_cons (ps_if (pt_cmpR (op_eqT hr.units) (pv 1) (pe_lst pa_nil) (nomark _)) (pss_one (ps_set (i := 1) nd rfl (Or.inl rfl) (pe_lst (pa_cons pe_int pa_nil)))) pss_nil)
  (pss_one (ps_ret (pe_lst (pa_cons (pv 1) (pa_cons pe_int (pa_cons pe_int pa_nil))))))))
theorem ok__law_begun (T : Tx K mg) : FnOk P w K mg base CX0 1 T.f__law_begun T.d__law_begun ["_law_script"] (sp__law_begun K) :=
  T.F__law_begun.ok sc__law_begun (fun vs H Q E h => len__law_begun h) (fun cdv A outer s H vs Q E hr h => ⟨t__law_begun K, der__law_begun T hr, rd__law_begun h⟩)
theorem der__law_draw (T : Tx K mg) {cdv : Value} {A : Around} {outer : List Env} {s : Shared} {H : Hp} {E : XK} (hr : Room 0 (A.deeper (envOfC "_law_draw" (defScope s__law_draw) s.heap.objs.size T.f__law_draw cdv))) :
    PSs (cxOf CX0 P w K mg base n__law_draw "_law_draw" (defScope s__law_draw) T.f__law_draw cdv A outer s H E).nox (defBody s__law_draw) (t__law_draw K) :=
  have nd := sc__law_draw.nd
  (pss_cons (ps_set (i := 2) nd rfl (Or.inl rfl) (pe_ix ix_list (pv 0) pe_int (fun _ _ => rfl)))
  (pss_cons (ps_set (i := 3) nd rfl (Or.inl rfl) (pe_op op_mod (pe_ix ix_list (pv 0) pe_int (fun _ _ => rfl)) (pe_callB cr_len (by rfl) T.m_len (by decide +kernel) (pa_cons (pv 2) pa_nil))))
  (pss_cons (ps_set (i := 4) nd rfl (Or.inl rfl) (pe_ix ix_list (pv 2) (pv 3) (fun _ _ => rfl)))
  (pss_cons (ps_if (pt_cmpR op_ge (pv 4) (pe_op op_pow pe_int pe_int) (nomark _)) (pss_cons (ps_asg (pe_op op_fdivW (pv 4) (pv 1)) (pg_sub (pv 2) (pv 3) set_list))
  (pss_one (ps_ret (pe_op op_mod (pv 4) (pv 1))))) pss_nil)
  (pss_cons (ps_asg (pe_op op_add (pe_ix ix_list (pv 0) pe_int (fun _ _ => rfl)) pe_int) (pg_sub (pv 0) pe_int set_list))
  (pss_cons (ps_asg (pe_op op_mod (pe_op op_add (pe_op op_add (pe_op op_mul (pe_ix ix_list (pv 0) pe_int (fun _ _ => rfl)) pe_int) (pv 4)) pe_int) pe_int) (pg_sub (pv 0) pe_int set_list))
  (pss_one (ps_ret (pe_op op_mod (pe_op op_fdivW (pe_op op_mod (pe_op op_mul (pe_ix ix_list (pv 0) pe_int (fun _ _ => rfl)) (pe_ix ix_list (pv 0) pe_int (fun _ _ => rfl))) pe_int) pe_int) (pv 1))))))))))
theorem ok__law_draw (T : Tx K mg) : FnOk P w K mg base CX0 1 T.f__law_draw T.d__law_draw ["_law_state", "_law_many"] (sp__law_draw K) :=
  T.F__law_draw.ok sc__law_draw (fun vs H Q E h => len__law_draw h) (fun cdv A outer s H vs Q E hr h => ⟨t__law_draw K, der__law_draw T hr, rd__law_draw h⟩)
theorem der__law_pick (T : Tx K mg) {cdv : Value} {A : Around} {outer : List Env} {s : Shared} {H : Hp} {E : XK} (hr : Room 1 (A.deeper (envOfC "_law_pick" (defScope s__law_pick) s.heap.objs.size T.f__law_pick cdv))) :
    PSs (cxOf CX0 P w K mg base n__law_pick "_law_pick" (defScope s__law_pick) T.f__law_pick cdv A outer s H E).nox (defBody s__law_pick) (t__law_pick K) :=
  have nd := sc__law_pick.nd
  (pss_one (ps_ret (pe_ix ix_list (pv 1) (pe_call (ok__law_draw T) (hr.mono (by decide)) (by rfl) T.g__law_draw T.F__law_draw.kp T.b__law_draw .nil pass0 (pa_cons (pv 0) (pa_cons (pe_callB cr_len (by rfl) T.m_len (by decide +kernel) (pa_cons (pv 1) pa_nil)) pa_nil))) (fun _ _ => rfl))))
theorem ok__law_pick (T : Tx K mg) : FnOk P w K mg base CX0 2 T.f__law_pick T.d__law_pick ["_law_state", "_law_some"] (sp__law_pick K) :=
  T.F__law_pick.ok sc__law_pick (fun vs H Q E h => len__law_pick h) (fun cdv A outer s H vs Q E hr h => ⟨t__law_pick K, der__law_pick T hr, rd__law_pick h⟩)
theorem der__law_kinds (T : Tx K mg) {cdv : Value} {A : Around} {outer : List Env} {s : Shared} {H : Hp} {E : XK} (hr : Room 0 (A.deeper (envOfC "_law_kinds" (defScope s__law_kinds) s.heap.objs.size T.f__law_kinds cdv))) :
    PSs (cxOf CX0 P w K mg base n__law_kinds "_law_kinds" (defScope s__law_kinds) T.f__law_kinds cdv A outer s H E).nox (defBody s__law_kinds) (t__law_kinds K) :=
  have nd := sc__law_kinds.nd
  (pss_cons (ps_set (i := 1) nd rfl (Or.inl rfl) (pe_lst (pa_cons (pe_callB BV.call_isV (by rfl) T.m_isinstance (by decide +kernel) (pa_cons (pv 0) (pa_cons (pe_glob (by rfl) T.g_NoLetters rfl) pa_nil))) (pa_cons (pe_callB BV.call_isV (by rfl) T.m_isinstance (by decide +kernel) (pa_cons (pv 0) (pa_cons (pe_glob (by rfl) T.g_NoLetter rfl) pa_nil))) (pa_cons (pe_callB BV.call_isV (by rfl) T.m_isinstance (by decide +kernel) (pa_cons (pv 0) (pa_cons (pe_glob (by rfl) T.g_NoFeed rfl) pa_nil))) (pa_cons (pe_callB BV.call_isV (by rfl) T.m_isinstance (by decide +kernel) (pa_cons (pv 0) (pa_cons (pe_glob (by rfl) T.g_NoMany rfl) pa_nil))) pa_nil))))))
  (pss_cons (ps_set (i := 1) nd rfl (Or.inl rfl) (pe_op op_cat (pv 1) (pe_lst (pa_cons (pe_callB BV.call_isV (by rfl) T.m_isinstance (by decide +kernel) (pa_cons (pv 0) (pa_cons (pe_glob (by rfl) T.g_NoTimes rfl) pa_nil))) (pa_cons (pe_callB BV.call_isV (by rfl) T.m_isinstance (by decide +kernel) (pa_cons (pv 0) (pa_cons (pe_glob (by rfl) T.g_NoKeeper rfl) pa_nil))) (pa_cons (pe_callB BV.call_isV (by rfl) T.m_isinstance (by decide +kernel) (pa_cons (pv 0) (pa_cons (pe_glob (by rfl) T.g_NoSum rfl) pa_nil))) (pa_cons (pe_callB BV.call_isV (by rfl) T.m_isinstance (by decide +kernel) (pa_cons (pv 0) (pa_cons (pe_glob (by rfl) T.g_NoPast rfl) pa_nil))) pa_nil)))))))
  (pss_cons (ps_set (i := 1) nd rfl (Or.inl rfl) (pe_op op_cat (pv 1) (pe_lst (pa_cons (pe_callB BV.call_isV (by rfl) T.m_isinstance (by decide +kernel) (pa_cons (pv 0) (pa_cons (pe_glob (by rfl) T.g_NoTally rfl) pa_nil))) (pa_cons (pe_callB BV.call_isV (by rfl) T.m_isinstance (by decide +kernel) (pa_cons (pv 0) (pa_cons (pe_glob (by rfl) T.g_NoFact rfl) pa_nil))) (pa_cons (pe_callB BV.call_isV (by rfl) T.m_isinstance (by decide +kernel) (pa_cons (pv 0) (pa_cons (pe_glob (by rfl) T.g_Barred rfl) pa_nil))) (pa_cons (pe_callB BV.call_isV (by rfl) T.m_isinstance (by decide +kernel) (pa_cons (pv 0) (pa_cons (pe_glob (by rfl) T.g_NoWeights rfl) pa_nil))) pa_nil)))))))
  (pss_cons (ps_set (i := 1) nd rfl (Or.inl rfl) (pe_op op_cat (pv 1) (pe_lst (pa_cons (pe_callB BV.call_isV (by rfl) T.m_isinstance (by decide +kernel) (pa_cons (pv 0) (pa_cons (pe_glob (by rfl) T.g_NoPaper rfl) pa_nil))) (pa_cons (pe_callB BV.call_isV (by rfl) T.m_isinstance (by decide +kernel) (pa_cons (pv 0) (pa_cons (pe_glob (by rfl) T.g_NoCount rfl) pa_nil))) (pa_cons (pe_callB BV.call_isV (by rfl) T.m_isinstance (by decide +kernel) (pa_cons (pv 0) (pa_cons (pe_glob (by rfl) T.g_TooMany rfl) pa_nil))) (pa_cons (pe_callB BV.call_isV (by rfl) T.m_isinstance (by decide +kernel) (pa_cons (pv 0) (pa_cons (pe_glob (by rfl) T.g_NoSize rfl) pa_nil))) pa_nil)))))))
  (pss_cons (ps_set (i := 1) nd rfl (Or.inl rfl) (pe_op op_cat (pv 1) (pe_lst (pa_cons (pe_callB BV.call_isV (by rfl) T.m_isinstance (by decide +kernel) (pa_cons (pv 0) (pa_cons (pe_glob (by rfl) T.g_NoNumber rfl) pa_nil))) (pa_cons (pe_callB BV.call_isV (by rfl) T.m_isinstance (by decide +kernel) (pa_cons (pv 0) (pa_cons (pe_glob (by rfl) T.g_NoRank rfl) pa_nil))) (pa_cons (pe_callB BV.call_isV (by rfl) T.m_isinstance (by decide +kernel) (pa_cons (pv 0) (pa_cons (pe_glob (by rfl) T.g_NoTruth rfl) pa_nil))) (pa_cons (pe_callB BV.call_isV (by rfl) T.m_isinstance (by decide +kernel) (pa_cons (pv 0) (pa_cons (pe_glob (by rfl) T.g_NoTick rfl) pa_nil))) pa_nil)))))))
  (pss_cons (ps_set (i := 1) nd rfl (Or.inl rfl) (pe_op op_cat (pv 1) (pe_lst (pa_cons (pe_callB BV.call_isV (by rfl) T.m_isinstance (by decide +kernel) (pa_cons (pv 0) (pa_cons (pe_glob (by rfl) T.g_NoAsking rfl) pa_nil))) (pa_cons (pe_callB BV.call_isV (by rfl) T.m_isinstance (by decide +kernel) (pa_cons (pv 0) (pa_cons (pe_glob (by rfl) T.g_NoDeed rfl) pa_nil))) (pa_cons (pe_callB BV.call_isV (by rfl) T.m_isinstance (by decide +kernel) (pa_cons (pv 0) (pa_cons (pe_glob (by rfl) T.g_NoName rfl) pa_nil))) (pa_cons (pe_callB BV.call_isV (by rfl) T.m_isinstance (by decide +kernel) (pa_cons (pv 0) (pa_cons (pe_glob (by rfl) T.g_Broken rfl) pa_nil))) pa_nil)))))))
  (pss_one (ps_ret (pe_op op_cat (pv 1) (pe_lst (pa_cons (pe_callB BV.call_isV (by rfl) T.m_isinstance (by decide +kernel) (pa_cons (pv 0) (pa_cons (pe_glob (by rfl) T.g_NoLog rfl) pa_nil))) (pa_cons (pe_callB BV.call_isV (by rfl) T.m_isinstance (by decide +kernel) (pa_cons (pv 0) (pa_cons (pe_glob (by rfl) T.g_NoText rfl) pa_nil))) pa_nil))))))))))))
theorem ok__law_kinds (T : Tx K mg) : FnOk P w K mg base CX0 1 T.f__law_kinds T.d__law_kinds ["_law_e"] (sp__law_kinds K) :=
  T.F__law_kinds.ok sc__law_kinds (fun vs H Q E h => len__law_kinds h) (fun cdv A outer s H vs Q E hr h => ⟨t__law_kinds K, der__law_kinds T hr, rd__law_kinds T.rf_all h⟩)
theorem der__law_plain (T : Tx K mg) {cdv : Value} {A : Around} {outer : List Env} {s : Shared} {H : Hp} {E : XK} (hr : Room 0 (A.deeper (envOfC "_law_plain" (defScope s__law_plain) s.heap.objs.size T.f__law_plain cdv))) :
    PSs (cxOf CX0 P w K mg base n__law_plain "_law_plain" (defScope s__law_plain) T.f__law_plain cdv A outer s H E).nox (defBody s__law_plain) (t__law_plain K) :=
  have nd := sc__law_plain.nd
  (pss_cons (ps_set (i := 1) nd rfl (Or.inl rfl) (pe_lst (pa_cons (pe_tup (pa_cons pe_int (pa_cons (BV.pe_errO T.rc_NoLetters T.g_NoLetters (by rfl) (pv 0)) pa_nil))) (pa_cons (pe_tup (pa_cons pe_int (pa_cons (BV.pe_errO T.rc_NoMany T.g_NoMany (by rfl) (pv 0)) pa_nil))) (pa_cons (pe_tup (pa_cons pe_int (pa_cons (BV.pe_errO T.rc_NoTimes T.g_NoTimes (by rfl) (pv 0)) pa_nil))) (pa_cons (pe_tup (pa_cons pe_int (pa_cons (BV.pe_errO T.rc_NoKeeper T.g_NoKeeper (by rfl) (pv 0)) pa_nil))) pa_nil))))))
  (pss_cons (ps_set (i := 1) nd rfl (Or.inl rfl) (pe_op op_cat (pv 1) (pe_lst (pa_cons (pe_tup (pa_cons pe_int (pa_cons (BV.pe_errO T.rc_NoSum T.g_NoSum (by rfl) (pv 0)) pa_nil))) (pa_cons (pe_tup (pa_cons pe_int (pa_cons (BV.pe_errO T.rc_NoTally T.g_NoTally (by rfl) (pv 0)) pa_nil))) (pa_cons (pe_tup (pa_cons pe_int (pa_cons (BV.pe_errO T.rc_NoWeights T.g_NoWeights (by rfl) (pv 0)) pa_nil))) (pa_cons (pe_tup (pa_cons pe_int (pa_cons (BV.pe_errO T.rc_NoPaper T.g_NoPaper (by rfl) (pv 0)) pa_nil))) pa_nil)))))))
  (pss_cons (ps_set (i := 1) nd rfl (Or.inl rfl) (pe_op op_cat (pv 1) (pe_lst (pa_cons (pe_tup (pa_cons pe_int (pa_cons (BV.pe_errO T.rc_NoCount T.g_NoCount (by rfl) (pv 0)) pa_nil))) (pa_cons (pe_tup (pa_cons pe_int (pa_cons (BV.pe_errO T.rc_NoSize T.g_NoSize (by rfl) (pv 0)) pa_nil))) (pa_cons (pe_tup (pa_cons pe_int (pa_cons (BV.pe_errO T.rc_NoNumber T.g_NoNumber (by rfl) (pv 0)) pa_nil))) (pa_cons (pe_tup (pa_cons pe_int (pa_cons (BV.pe_errO T.rc_NoRank T.g_NoRank (by rfl) (pv 0)) pa_nil))) pa_nil)))))))
  (pss_one (ps_ret (pe_op op_cat (pv 1) (pe_lst (pa_cons (pe_tup (pa_cons pe_int (pa_cons (BV.pe_errO T.rc_NoTruth T.g_NoTruth (by rfl) (pv 0)) pa_nil))) (pa_cons (pe_tup (pa_cons pe_int (pa_cons (BV.pe_errO T.rc_NoAsking T.g_NoAsking (by rfl) (pv 0)) pa_nil))) (pa_cons (pe_tup (pa_cons pe_int (pa_cons (BV.pe_errO T.rc_NoDeed T.g_NoDeed (by rfl) (pv 0)) pa_nil))) pa_nil))))))))))
theorem ok__law_plain (T : Tx K mg) : FnOk P w K mg base CX0 1 T.f__law_plain T.d__law_plain ["_law_matter"] (sp__law_plain K) :=
  T.F__law_plain.ok sc__law_plain (fun vs H Q E h => len__law_plain h) (fun cdv A outer s H vs Q E hr h => ⟨t__law_plain K, der__law_plain T hr, rd__law_plain h⟩)
theorem der__law_fielded (T : Tx K mg) {cdv : Value} {A : Around} {outer : List Env} {s : Shared} {H : Hp} {E : XK} (hr : Room 2 (A.deeper (envOfC "_law_fielded" (defScope s__law_fielded) s.heap.objs.size T.f__law_fielded cdv))) :
    PSs (cxOf CX0 P w K mg base n__law_fielded "_law_fielded" (defScope s__law_fielded) T.f__law_fielded cdv A outer s H E).nox (defBody s__law_fielded) (t__law_fielded K) :=
  have nd := sc__law_fielded.nd
  (pss_cons (ps_par3 (i := 3) (j := 4) (l := 5) rfl nd rfl rfl rfl (by decide) (by decide) (by decide) rfl rfl rfl (pa_cons (BV.pe_errI T.ri_NoLetter T.ii_NoLetter T.ti_NoLetter (ok_NoLetter___init__ T) pass0 (hr.mono (by decide)) T.b_NoLetter___init__ .nil (by rfl) T.g_NoLetter (pa_cons (pv 0) pa_nil)) (pa_cons (BV.pe_errI T.ri_NoName T.ii_NoName T.ti_NoName (ok_NoName___init__ T) pass0 (hr.mono (by decide)) T.b_NoName___init__ .nil (by rfl) T.g_NoName (pa_cons (pv 0) pa_nil)) (pa_cons (BV.pe_errI T.ri_Barred T.ii_Barred T.ti_Barred (ok_Barred___init__ T) pass0 (hr.mono (by decide)) T.b_Barred___init__ .nil (by rfl) T.g_Barred (pa_cons (pe_ix ix_tup (pv 2) pe_int (fun _ _ => rfl)) (pa_cons (pe_ix ix_tup (pv 2) pe_int (fun _ _ => rfl)) pa_nil))) pa_nil))) (by rfl))
  (pss_cons (ps_set (i := 6) nd rfl (Or.inl rfl) (pe_lst (pa_cons (pe_tup (pa_cons pe_int (pa_cons (pv 3) (pa_cons (BV.pe_xv (pv 3)) (pa_cons (pv 0) pa_nil))))) (pa_cons (pe_tup (pa_cons pe_int (pa_cons (pv 4) (pa_cons (BV.pe_xv (pv 4)) (pa_cons (pv 0) pa_nil))))) pa_nil))))
  (pss_cons (ps_expr (pe_bm PySem.F.plainAttrs_list PySem.F.slot_list_append PySem.F.type_list_append mt_append (pv 6) (pa_cons (pe_tup (pa_cons pe_int (pa_cons (pv 5) (pa_cons (pe_tup (pa_cons (BV.pe_xv (pv 5)) (pa_cons (BV.pe_xv (pv 5)) pa_nil))) (pa_cons (pv 2) pa_nil))))) pa_nil)))
  (pss_cons (ps_set (i := 7) nd rfl (Or.inl rfl) (pe_lst (pa_cons (pe_tup (pa_cons pe_int (pa_cons (BV.pe_errI T.ri_NoFeed T.ii_NoFeed T.ti_NoFeed (ok_NoFeed___init__ T) pass0 (hr.mono (by decide)) T.b_NoFeed___init__ .nil (by rfl) T.g_NoFeed (pa_cons (pv 1) pa_nil)) pa_nil))) (pa_cons (pe_tup (pa_cons pe_int (pa_cons (BV.pe_errI T.ri_NoPast T.ii_NoPast T.ti_NoPast (ok_NoPast___init__ T) pass0 (hr.mono (by decide)) T.b_NoPast___init__ .nil (by rfl) T.g_NoPast (pa_cons (pv 1) pa_nil)) pa_nil))) (pa_cons (pe_tup (pa_cons pe_int (pa_cons (BV.pe_errI T.ri_NoFact T.ii_NoFact T.ti_NoFact (ok_NoFact___init__ T) pass0 (hr.mono (by decide)) T.b_NoFact___init__ .nil (by rfl) T.g_NoFact (pa_cons (pv 1) pa_nil)) pa_nil))) (pa_cons (pe_tup (pa_cons pe_int (pa_cons (BV.pe_errI T.ri_NoTick T.ii_NoTick T.ti_NoTick (ok_NoTick___init__ T) pass0 (hr.mono (by decide)) T.b_NoTick___init__ .nil (by rfl) T.g_NoTick (pa_cons (pv 1) pa_nil)) pa_nil))) pa_nil))))))
  (pss_cons (ps_for PassesOwn.never rfl (pi_list (pe_op op_cat (pv 7) (pe_lst (pa_cons (pe_tup (pa_cons pe_int (pa_cons (BV.pe_errI T.ri_Broken T.ii_Broken T.ti_Broken (ok_Broken___init__ T) pass0 (hr.mono (by decide)) T.b_Broken___init__ .nil (by rfl) T.g_Broken (pa_cons (pv 1) pa_nil)) pa_nil))) (pa_cons (pe_tup (pa_cons pe_int (pa_cons (BV.pe_errI T.ri_NoLog T.ii_NoLog T.ti_NoLog (ok_NoLog___init__ T) pass0 (hr.mono (by decide)) T.b_NoLog___init__ .nil (by rfl) T.g_NoLog (pa_cons (pv 1) pa_nil)) pa_nil))) pa_nil))))) (pg_tup rfl (pgs_cons (pg_name (i := 8) nd rfl (by first | exact Or.inl rfl | exact Or.inr rfl)) (pgs_cons (pg_name (i := 9) nd rfl (by first | exact Or.inl rfl | exact Or.inr rfl)) pgs_nil)))
  (pss_one (ps_expr (pe_bm PySem.F.plainAttrs_list PySem.F.slot_list_append PySem.F.type_list_append mt_append (pv 6) (pa_cons (pe_tup (pa_cons (pv 8) (pa_cons (pv 9) (pa_cons (BV.pe_xv (pv 9)) (pa_cons (pv 1) pa_nil))))) pa_nil)))))
  (pss_cons (ps_par (i := 10) (j := 11) rfl nd rfl rfl (by decide) rfl rfl (pa_cons (BV.pe_errI T.ri_TooMany T.ii_TooMany T.ti_TooMany (ok_TooMany___init__ T) pass0 (hr.mono (by decide)) T.b_TooMany___init__ .nil (by rfl) T.g_TooMany (pa_cons (pv 1) pa_nil)) (pa_cons (BV.pe_errI T.ri_NoText T.ii_NoText T.ti_NoText (ok_NoText___init__ T) pass0 (hr.mono (by decide)) T.b_NoText___init__ .nil (by rfl) T.g_NoText (pa_cons (pv 1) pa_nil)) pa_nil)) (by rfl))
  (pss_one (ps_ret (pe_op op_cat (pv 6) (pe_lst (pa_cons (pe_tup (pa_cons pe_int (pa_cons (pv 10) (pa_cons (BV.pe_xv (pv 10)) (pa_cons (pv 1) pa_nil))))) (pa_cons (pe_tup (pa_cons pe_int (pa_cons (pv 11) (pa_cons (BV.pe_xv (pv 11)) (pa_cons (pv 1) pa_nil))))) pa_nil))))))))))))
theorem ok__law_fielded (T : Tx K mg) : FnOk P w K mg base CX0 3 T.f__law_fielded T.d__law_fielded ["_law_thing", "_law_number", "_law_bar"] (sp__law_fielded K) :=
  T.F__law_fielded.ok sc__law_fielded (fun vs H Q E h => len__law_fielded h) (fun cdv A outer s H vs Q E hr h => ⟨t__law_fielded K, der__law_fielded T hr, rd__law_fielded T.xf_NoLetter T.xf_NoName T.xf_NoFeed T.xf_NoPast T.xf_NoFact T.xf_NoTick T.xf_Broken T.xf_NoLog T.xf_TooMany T.xf_NoText T.xf_Barred T.xo_NoLetter_name T.xo_NoName_name T.xo_NoFeed_at T.xo_NoPast_at T.xo_NoFact_at T.xo_NoTick_at T.xo_Broken_at T.xo_NoLog_at T.xo_TooMany_limit T.xo_NoText_row T.xo_Barred_word T.xo_Barred_some h⟩)
theorem der_law (T : Tx K mg) {cdv : Value} {A : Around} {outer : List Env} {s : Shared} {H : Hp} {E : XK} (hgd : A.guards = some []) (hr : Room 3 (A.deeper (envOfC "law" (defScope s_law) s.heap.objs.size T.f_law cdv))) :
    PSs (cxOf CX0 P w K mg base n_law "law" (defScope s_law) T.f_law cdv A outer s H E).nox (defBody s_law) (t_law K) :=
  have nd := sc_law.nd
  (pss_cons (ps_set (i := 1) nd rfl (Or.inl rfl) (pe_call (ok__law_begun T) (hr.mono (by decide)) (by rfl) T.g__law_begun T.F__law_begun.kp T.b__law_begun .nil pass0 (pa_cons (pv 0) pa_nil)))
  (pss_cons (ps_for PassesOwn.never rfl (pi_range1 rfl T.m_range (pa_cons pe_int pa_nil)) (pg_name (i := 2) nd rfl (by first | exact Or.inl rfl | exact Or.inr rfl))
  (pss_cons (ps_set (i := 3) nd rfl (Or.inl rfl) (pe_call (ok__law_pick T) (hr.mono (by decide)) (by rfl) T.g__law_pick T.F__law_pick.kp T.b__law_pick .nil pass0 (pa_cons (pv 1) (pa_cons (pe_lst (pa_cons pe_str (pa_cons pe_str (pa_cons (pe_op op_mulS pe_str pe_int) pa_nil)))) pa_nil))))
  (pss_cons (ps_set (i := 4) nd rfl (Or.inl rfl) (pe_call (ok__law_pick T) (hr.mono (by decide)) (by rfl) T.g__law_pick T.F__law_pick.kp T.b__law_pick .nil pass0 (pa_cons (pv 1) (pa_cons (pe_lst (pa_cons pe_int (pa_cons (pe_call (ok__law_draw T) (hr.mono (by decide)) (by rfl) T.g__law_draw T.F__law_draw.kp T.b__law_draw .nil pass0 (pa_cons (pv 1) (pa_cons (pe_op op_pow pe_int pe_int) pa_nil))) (pa_cons (pe_un un_neg pe_int) (pa_cons pe_non (pa_cons pe_bl (pa_cons pe_str (pa_cons pe_str (pa_cons (pe_tup (pa_cons pe_str (pa_cons pe_str pa_nil))) (pa_cons (pe_lst (pa_cons pe_str pa_nil)) (pa_cons (pe_tup pa_nil) (pa_cons pe_dnewK pa_nil)))))))))))) pa_nil))))
  (pss_cons (ps_set (i := 5) nd rfl (Or.inl rfl) (pe_call (ok__law_pick T) (hr.mono (by decide)) (by rfl) T.g__law_pick T.F__law_pick.kp T.b__law_pick .nil pass0 (pa_cons (pv 1) (pa_cons (pe_lst (pa_cons pe_int (pa_cons pe_int (pa_cons (pe_call (ok__law_draw T) (hr.mono (by decide)) (by rfl) T.g__law_draw T.F__law_draw.kp T.b__law_draw .nil pass0 (pa_cons (pv 1) (pa_cons pe_int pa_nil))) (pa_cons (pe_call (ok__law_draw T) (hr.mono (by decide)) (by rfl) T.g__law_draw T.F__law_draw.kp T.b__law_draw .nil pass0 (pa_cons (pv 1) (pa_cons (pe_op op_pow pe_int pe_int) pa_nil))) pa_nil))))) pa_nil))))
  (pss_cons (ps_set (i := 6) nd rfl (Or.inl rfl) (pe_call (ok__law_pick T) (hr.mono (by decide)) (by rfl) T.g__law_pick T.F__law_pick.kp T.b__law_pick .nil pass0 (pa_cons (pv 1) (pa_cons (pe_lst (pa_cons (pe_tup (pa_cons pe_str pa_nil)) (pa_cons (pe_tup (pa_cons pe_str (pa_cons pe_str pa_nil))) (pa_cons (pe_tup (pa_cons pe_str (pa_cons pe_str (pa_cons pe_str pa_nil)))) pa_nil)))) pa_nil))))
  (pss_cons (ps_set (i := 7) nd rfl (Or.inl rfl) (pe_tup (pa_cons (pe_call (ok__law_pick T) (hr.mono (by decide)) (by rfl) T.g__law_pick T.F__law_pick.kp T.b__law_pick .nil pass0 (pa_cons (pv 1) (pa_cons (pe_lst (pa_cons pe_str (pa_cons pe_str (pa_cons pe_str pa_nil)))) pa_nil))) (pa_cons (pv 6) pa_nil))))
  (pss_cons (ps_set (i := 8) nd rfl (Or.inl rfl) (pe_call (ok__law_fielded T) (hr.mono (by decide)) (by rfl) T.g__law_fielded T.F__law_fielded.kp T.b__law_fielded .nil pass0 (pa_cons (pv 4) (pa_cons (pv 5) (pa_cons (pv 7) pa_nil)))))
  (pss_cons (ps_for PassesOwn.never rfl (pi_list (pv 8)) (pg_tup rfl (pgs_cons (pg_name (i := 9) nd rfl (by first | exact Or.inl rfl | exact Or.inr rfl)) (pgs_cons (pg_name (i := 10) nd rfl (by first | exact Or.inl rfl | exact Or.inr rfl)) (pgs_cons (pg_name (i := 11) nd rfl (by first | exact Or.inl rfl | exact Or.inr rfl)) (pgs_cons (pg_name (i := 12) nd rfl (by first | exact Or.inl rfl | exact Or.inr rfl)) pgs_nil)))))
  (pss_one (ps_if (pt_cmpR op_ne (pe_callB (cr_reprV hgd hr.units) (by rfl) T.m_repr (by decide +kernel) (pa_cons (pv 11) pa_nil)) (pe_callB (cr_reprV hgd hr.units) (by rfl) T.m_repr (by decide +kernel) (pa_cons (pv 12) pa_nil)) (nomark _)) (pss_one (ps_ret pe_bl)) pss_nil)))
  (pss_one (ps_for PassesOwn.never rfl (pi_list (pe_op op_cat (pe_call (ok__law_plain T) (hr.mono (by decide)) (by rfl) T.g__law_plain T.F__law_plain.kp T.b__law_plain .nil pass0 (pa_cons (pv 3) pa_nil)) (pe_lc (own := [("_law_row", 13)]) rfl nd (pi_list (pv 8)) (blkOk_by (own := [("_law_row", 13)]) (N := n_law) (sc := defScope s_law) (by decide +kernel)) (fun _ _ _ _ _ => (pg_name (i := 13) nd rfl (by first | exact Or.inl rfl | exact Or.inr rfl))) (fun _ _ _ _ _ => pts_nil) (fun _ _ _ _ _ => (pe_slice sl_tupA (pv 13) po_none (po_some pe_int)))))) (pg_tup rfl (pgs_cons (pg_name (i := 9) nd rfl (by first | exact Or.inl rfl | exact Or.inr rfl)) (pgs_cons (pg_name (i := 10) nd rfl (by first | exact Or.inl rfl | exact Or.inr rfl)) pgs_nil)))
  (pss_cons (ps_if (PW.pt (pw_or (pt_cmpR (op_neT hr.units) (pe_call (ok__law_kinds T) (hr.mono (by decide)) (by rfl) T.g__law_kinds T.F__law_kinds.kp T.b__law_kinds .nil pass0 (pa_cons (pv 10) pa_nil)) (pe_lc (own := [("_law_k", 14)]) rfl nd (pi_range1 rfl T.m_range (pa_cons pe_int pa_nil)) (blkOk_by (own := [("_law_k", 14)]) (N := n_law) (sc := defScope s_law) (by decide +kernel)) (fun _ _ _ _ _ => (pg_name (i := 14) nd rfl (by first | exact Or.inl rfl | exact Or.inr rfl))) (fun _ _ _ _ _ => pts_nil) (fun _ _ _ _ _ => (pe_cmpR op_eq (pv 14) (pv 9) (nomark _)))) (nomark _)) (pw_or1 (pt_not (pt_val (pe_callB BV.call_isV (by rfl) T.m_isinstance (by decide +kernel) (pa_cons (pv 10) (pa_cons (pe_glob (by rfl) T.g_LeftError rfl) pa_nil)))))))) (pss_one (ps_ret pe_bl)) pss_nil)
  (pss_one (ps_if (pt_not (pt_val (pe_callB BV.call_isV (by rfl) T.m_isinstance (by decide +kernel) (pa_cons (pv 10) (pa_cons (pe_bltn (by rfl) T.m_ValueError (by decide +kernel) rfl) pa_nil))))) (pss_one (ps_ret pe_bl)) pss_nil)))))))))))))
  (pss_one (ps_ret pe_bl))))
theorem ok_law (T : Tx K mg) : FnG P w K mg base 4 T.f_law T.d_law ["_law_script"] (sp_law K) :=
  okG T.F_law sc_law (fun vs H Q E h => len_law h) (fun cdv A hgd outer s H vs Q E hr h => ⟨t_law K, der_law T hgd hr, rd_law T.rf_all h⟩)

end

theorem all_mk {l : PySem.W.OpenLaw} {w : World} {K : Fg} {h : Heap} {mg : Str → Option Value} {fa c_Barred c_Broken c_LeftError c_NoAsking c_NoCount c_NoDeed c_NoFact c_NoFeed c_NoKeeper c_NoLetter c_NoLetters c_NoLog c_NoMany c_NoName c_NoNumber c_NoPaper c_NoPast c_NoRank c_NoSize c_NoSum c_NoTally c_NoText c_NoTick c_NoTimes c_NoTruth c_NoWeights c_TooMany f_NoLetter___init__ f_NoFeed___init__ f_NoPast___init__ f_NoFact___init__ f_Barred___init__ f_TooMany___init__ f_NoTick___init__ f_NoName___init__ f_Broken___init__ f_NoLog___init__ f_NoText___init__ f__law_begun f__law_draw f__law_pick f__law_kinds f__law_plain f__law_fielded f_law : Addr} (X : K.In h) (G : h.Ns mainGlobals mg) (hfa : mg "law" = some (.ref fa))
     {od_NoLetter___init__ an_NoLetter___init__ od_NoFeed___init__ an_NoFeed___init__ od_NoPast___init__ an_NoPast___init__ od_NoFact___init__ an_NoFact___init__ od_Barred___init__ an_Barred___init__ od_TooMany___init__ an_TooMany___init__ od_NoTick___init__ an_NoTick___init__ od_NoName___init__ an_NoName___init__ od_Broken___init__ an_Broken___init__ od_NoLog___init__ an_NoLog___init__ od_NoText___init__ an_NoText___init__ od__law_begun an__law_begun od__law_draw an__law_draw od__law_pick an__law_pick od__law_kinds an__law_kinds od__law_plain an__law_plain od__law_fielded an__law_fielded od_law an_law : Option Addr} {sl_NoLetter___init__ sl_NoFeed___init__ sl_NoPast___init__ sl_NoFact___init__ sl_Barred___init__ sl_TooMany___init__ sl_NoTick___init__ sl_NoName___init__ sl_Broken___init__ sl_NoLog___init__ sl_NoText___init__ sl__law_begun sl__law_draw sl__law_pick sl__law_kinds sl__law_plain sl__law_fielded sl_law : Array (Option Value)} {oc_NoLetter___init__ kV_NoLetter___init__ dc_NoLetter___init__ pm_NoLetter___init__ cd_NoLetter___init__ ct_NoLetter___init__ oc_NoFeed___init__ kV_NoFeed___init__ dc_NoFeed___init__ pm_NoFeed___init__ cd_NoFeed___init__ ct_NoFeed___init__ oc_NoPast___init__ kV_NoPast___init__ dc_NoPast___init__ pm_NoPast___init__ cd_NoPast___init__ ct_NoPast___init__ oc_NoFact___init__ kV_NoFact___init__ dc_NoFact___init__ pm_NoFact___init__ cd_NoFact___init__ ct_NoFact___init__ oc_Barred___init__ kV_Barred___init__ dc_Barred___init__ pm_Barred___init__ cd_Barred___init__ ct_Barred___init__ oc_TooMany___init__ kV_TooMany___init__ dc_TooMany___init__ pm_TooMany___init__ cd_TooMany___init__ ct_TooMany___init__ oc_NoTick___init__ kV_NoTick___init__ dc_NoTick___init__ pm_NoTick___init__ cd_NoTick___init__ ct_NoTick___init__ oc_NoName___init__ kV_NoName___init__ dc_NoName___init__ pm_NoName___init__ cd_NoName___init__ ct_NoName___init__ oc_Broken___init__ kV_Broken___init__ dc_Broken___init__ pm_Broken___init__ cd_Broken___init__ ct_Broken___init__ oc_NoLog___init__ kV_NoLog___init__ dc_NoLog___init__ pm_NoLog___init__ cd_NoLog___init__ ct_NoLog___init__ oc_NoText___init__ kV_NoText___init__ dc_NoText___init__ pm_NoText___init__ cd_NoText___init__ ct_NoText___init__ oc__law_begun kV__law_begun dc__law_begun pm__law_begun cd__law_begun ct__law_begun oc__law_draw kV__law_draw dc__law_draw pm__law_draw cd__law_draw ct__law_draw oc__law_pick kV__law_pick dc__law_pick pm__law_pick cd__law_pick ct__law_pick oc__law_kinds kV__law_kinds dc__law_kinds pm__law_kinds cd__law_kinds ct__law_kinds oc__law_plain kV__law_plain dc__law_plain pm__law_plain cd__law_plain ct__law_plain oc__law_fielded kV__law_fielded dc__law_fielded pm__law_fielded cd__law_fielded ct__law_fielded oc_law kV_law dc_law pm_law cd_law ct_law : Value}
    (z_abs : PySem.W.nsIn K mainGlobals "abs" = some none)
    (z_len : PySem.W.nsIn K mainGlobals "len" = some none)
    (z_isinstance : PySem.W.nsIn K mainGlobals "isinstance" = some none)
    (z_range : PySem.W.nsIn K mainGlobals "range" = some none)
    (z_repr : PySem.W.nsIn K mainGlobals "repr" = some none)
    (z_ValueError : PySem.W.nsIn K mainGlobals "ValueError" = some none)
    (l_NoLetter___init__ : K.lookup f_NoLetter___init__ = some ⟨oc_NoLetter___init__, od_NoLetter___init__, .func (PySem.W.fnOf "__init__" "NoLetter.__init__" (defArgs s_NoLetter___init__) (defBody s_NoLetter___init__) (defScope s_NoLetter___init__) .none kV_NoLetter___init__ dc_NoLetter___init__ pm_NoLetter___init__ an_NoLetter___init__ cd_NoLetter___init__ ct_NoLetter___init__), sl_NoLetter___init__⟩)
    (c_NoLetter___init__ : PySem.W.codeIn K cd_NoLetter___init__ "NoLetter.__init__" = true)
    (k_NoLetter___init__ : PySem.W.keepIn K (.ref f_NoLetter___init__) = true)
    (l_NoFeed___init__ : K.lookup f_NoFeed___init__ = some ⟨oc_NoFeed___init__, od_NoFeed___init__, .func (PySem.W.fnOf "__init__" "NoFeed.__init__" (defArgs s_NoFeed___init__) (defBody s_NoFeed___init__) (defScope s_NoFeed___init__) .none kV_NoFeed___init__ dc_NoFeed___init__ pm_NoFeed___init__ an_NoFeed___init__ cd_NoFeed___init__ ct_NoFeed___init__), sl_NoFeed___init__⟩)
    (c_NoFeed___init__ : PySem.W.codeIn K cd_NoFeed___init__ "NoFeed.__init__" = true)
    (k_NoFeed___init__ : PySem.W.keepIn K (.ref f_NoFeed___init__) = true)
    (l_NoPast___init__ : K.lookup f_NoPast___init__ = some ⟨oc_NoPast___init__, od_NoPast___init__, .func (PySem.W.fnOf "__init__" "NoPast.__init__" (defArgs s_NoPast___init__) (defBody s_NoPast___init__) (defScope s_NoPast___init__) .none kV_NoPast___init__ dc_NoPast___init__ pm_NoPast___init__ an_NoPast___init__ cd_NoPast___init__ ct_NoPast___init__), sl_NoPast___init__⟩)
    (c_NoPast___init__ : PySem.W.codeIn K cd_NoPast___init__ "NoPast.__init__" = true)
    (k_NoPast___init__ : PySem.W.keepIn K (.ref f_NoPast___init__) = true)
    (l_NoFact___init__ : K.lookup f_NoFact___init__ = some ⟨oc_NoFact___init__, od_NoFact___init__, .func (PySem.W.fnOf "__init__" "NoFact.__init__" (defArgs s_NoFact___init__) (defBody s_NoFact___init__) (defScope s_NoFact___init__) .none kV_NoFact___init__ dc_NoFact___init__ pm_NoFact___init__ an_NoFact___init__ cd_NoFact___init__ ct_NoFact___init__), sl_NoFact___init__⟩)
    (c_NoFact___init__ : PySem.W.codeIn K cd_NoFact___init__ "NoFact.__init__" = true)
    (k_NoFact___init__ : PySem.W.keepIn K (.ref f_NoFact___init__) = true)
    (l_Barred___init__ : K.lookup f_Barred___init__ = some ⟨oc_Barred___init__, od_Barred___init__, .func (PySem.W.fnOf "__init__" "Barred.__init__" (defArgs s_Barred___init__) (defBody s_Barred___init__) (defScope s_Barred___init__) .none kV_Barred___init__ dc_Barred___init__ pm_Barred___init__ an_Barred___init__ cd_Barred___init__ ct_Barred___init__), sl_Barred___init__⟩)
    (c_Barred___init__ : PySem.W.codeIn K cd_Barred___init__ "Barred.__init__" = true)
    (k_Barred___init__ : PySem.W.keepIn K (.ref f_Barred___init__) = true)
    (l_TooMany___init__ : K.lookup f_TooMany___init__ = some ⟨oc_TooMany___init__, od_TooMany___init__, .func (PySem.W.fnOf "__init__" "TooMany.__init__" (defArgs s_TooMany___init__) (defBody s_TooMany___init__) (defScope s_TooMany___init__) .none kV_TooMany___init__ dc_TooMany___init__ pm_TooMany___init__ an_TooMany___init__ cd_TooMany___init__ ct_TooMany___init__), sl_TooMany___init__⟩)
    (c_TooMany___init__ : PySem.W.codeIn K cd_TooMany___init__ "TooMany.__init__" = true)
    (k_TooMany___init__ : PySem.W.keepIn K (.ref f_TooMany___init__) = true)
    (l_NoTick___init__ : K.lookup f_NoTick___init__ = some ⟨oc_NoTick___init__, od_NoTick___init__, .func (PySem.W.fnOf "__init__" "NoTick.__init__" (defArgs s_NoTick___init__) (defBody s_NoTick___init__) (defScope s_NoTick___init__) .none kV_NoTick___init__ dc_NoTick___init__ pm_NoTick___init__ an_NoTick___init__ cd_NoTick___init__ ct_NoTick___init__), sl_NoTick___init__⟩)
    (c_NoTick___init__ : PySem.W.codeIn K cd_NoTick___init__ "NoTick.__init__" = true)
    (k_NoTick___init__ : PySem.W.keepIn K (.ref f_NoTick___init__) = true)
    (l_NoName___init__ : K.lookup f_NoName___init__ = some ⟨oc_NoName___init__, od_NoName___init__, .func (PySem.W.fnOf "__init__" "NoName.__init__" (defArgs s_NoName___init__) (defBody s_NoName___init__) (defScope s_NoName___init__) .none kV_NoName___init__ dc_NoName___init__ pm_NoName___init__ an_NoName___init__ cd_NoName___init__ ct_NoName___init__), sl_NoName___init__⟩)
    (c_NoName___init__ : PySem.W.codeIn K cd_NoName___init__ "NoName.__init__" = true)
    (k_NoName___init__ : PySem.W.keepIn K (.ref f_NoName___init__) = true)
    (l_Broken___init__ : K.lookup f_Broken___init__ = some ⟨oc_Broken___init__, od_Broken___init__, .func (PySem.W.fnOf "__init__" "Broken.__init__" (defArgs s_Broken___init__) (defBody s_Broken___init__) (defScope s_Broken___init__) .none kV_Broken___init__ dc_Broken___init__ pm_Broken___init__ an_Broken___init__ cd_Broken___init__ ct_Broken___init__), sl_Broken___init__⟩)
    (c_Broken___init__ : PySem.W.codeIn K cd_Broken___init__ "Broken.__init__" = true)
    (k_Broken___init__ : PySem.W.keepIn K (.ref f_Broken___init__) = true)
    (l_NoLog___init__ : K.lookup f_NoLog___init__ = some ⟨oc_NoLog___init__, od_NoLog___init__, .func (PySem.W.fnOf "__init__" "NoLog.__init__" (defArgs s_NoLog___init__) (defBody s_NoLog___init__) (defScope s_NoLog___init__) .none kV_NoLog___init__ dc_NoLog___init__ pm_NoLog___init__ an_NoLog___init__ cd_NoLog___init__ ct_NoLog___init__), sl_NoLog___init__⟩)
    (c_NoLog___init__ : PySem.W.codeIn K cd_NoLog___init__ "NoLog.__init__" = true)
    (k_NoLog___init__ : PySem.W.keepIn K (.ref f_NoLog___init__) = true)
    (l_NoText___init__ : K.lookup f_NoText___init__ = some ⟨oc_NoText___init__, od_NoText___init__, .func (PySem.W.fnOf "__init__" "NoText.__init__" (defArgs s_NoText___init__) (defBody s_NoText___init__) (defScope s_NoText___init__) .none kV_NoText___init__ dc_NoText___init__ pm_NoText___init__ an_NoText___init__ cd_NoText___init__ ct_NoText___init__), sl_NoText___init__⟩)
    (c_NoText___init__ : PySem.W.codeIn K cd_NoText___init__ "NoText.__init__" = true)
    (k_NoText___init__ : PySem.W.keepIn K (.ref f_NoText___init__) = true)
    (a__law_begun : PySem.W.nsIn K mainGlobals "_law_begun" = some (some (.ref f__law_begun)))
    (l__law_begun : K.lookup f__law_begun = some ⟨oc__law_begun, od__law_begun, .func (PySem.W.fnOf "_law_begun" "_law_begun" (defArgs s__law_begun) (defBody s__law_begun) (defScope s__law_begun) .none kV__law_begun dc__law_begun pm__law_begun an__law_begun cd__law_begun ct__law_begun), sl__law_begun⟩)
    (c__law_begun : PySem.W.codeIn K cd__law_begun "_law_begun" = true)
    (k__law_begun : PySem.W.keepIn K (.ref f__law_begun) = true)
    (a__law_draw : PySem.W.nsIn K mainGlobals "_law_draw" = some (some (.ref f__law_draw)))
    (l__law_draw : K.lookup f__law_draw = some ⟨oc__law_draw, od__law_draw, .func (PySem.W.fnOf "_law_draw" "_law_draw" (defArgs s__law_draw) (defBody s__law_draw) (defScope s__law_draw) .none kV__law_draw dc__law_draw pm__law_draw an__law_draw cd__law_draw ct__law_draw), sl__law_draw⟩)
    (c__law_draw : PySem.W.codeIn K cd__law_draw "_law_draw" = true)
    (k__law_draw : PySem.W.keepIn K (.ref f__law_draw) = true)
    (a__law_pick : PySem.W.nsIn K mainGlobals "_law_pick" = some (some (.ref f__law_pick)))
    (l__law_pick : K.lookup f__law_pick = some ⟨oc__law_pick, od__law_pick, .func (PySem.W.fnOf "_law_pick" "_law_pick" (defArgs s__law_pick) (defBody s__law_pick) (defScope s__law_pick) .none kV__law_pick dc__law_pick pm__law_pick an__law_pick cd__law_pick ct__law_pick), sl__law_pick⟩)
    (c__law_pick : PySem.W.codeIn K cd__law_pick "_law_pick" = true)
    (k__law_pick : PySem.W.keepIn K (.ref f__law_pick) = true)
    (a__law_kinds : PySem.W.nsIn K mainGlobals "_law_kinds" = some (some (.ref f__law_kinds)))
    (l__law_kinds : K.lookup f__law_kinds = some ⟨oc__law_kinds, od__law_kinds, .func (PySem.W.fnOf "_law_kinds" "_law_kinds" (defArgs s__law_kinds) (defBody s__law_kinds) (defScope s__law_kinds) .none kV__law_kinds dc__law_kinds pm__law_kinds an__law_kinds cd__law_kinds ct__law_kinds), sl__law_kinds⟩)
    (c__law_kinds : PySem.W.codeIn K cd__law_kinds "_law_kinds" = true)
    (k__law_kinds : PySem.W.keepIn K (.ref f__law_kinds) = true)
    (a__law_plain : PySem.W.nsIn K mainGlobals "_law_plain" = some (some (.ref f__law_plain)))
    (l__law_plain : K.lookup f__law_plain = some ⟨oc__law_plain, od__law_plain, .func (PySem.W.fnOf "_law_plain" "_law_plain" (defArgs s__law_plain) (defBody s__law_plain) (defScope s__law_plain) .none kV__law_plain dc__law_plain pm__law_plain an__law_plain cd__law_plain ct__law_plain), sl__law_plain⟩)
    (c__law_plain : PySem.W.codeIn K cd__law_plain "_law_plain" = true)
    (k__law_plain : PySem.W.keepIn K (.ref f__law_plain) = true)
    (a__law_fielded : PySem.W.nsIn K mainGlobals "_law_fielded" = some (some (.ref f__law_fielded)))
    (l__law_fielded : K.lookup f__law_fielded = some ⟨oc__law_fielded, od__law_fielded, .func (PySem.W.fnOf "_law_fielded" "_law_fielded" (defArgs s__law_fielded) (defBody s__law_fielded) (defScope s__law_fielded) .none kV__law_fielded dc__law_fielded pm__law_fielded an__law_fielded cd__law_fielded ct__law_fielded), sl__law_fielded⟩)
    (c__law_fielded : PySem.W.codeIn K cd__law_fielded "_law_fielded" = true)
    (k__law_fielded : PySem.W.keepIn K (.ref f__law_fielded) = true)
    (a_law : PySem.W.nsIn K mainGlobals "law" = some (some (.ref f_law)))
    (l_law : K.lookup f_law = some ⟨oc_law, od_law, .func (PySem.W.fnOf "law" "law" (defArgs s_law) (defBody s_law) (defScope s_law) .none kV_law dc_law pm_law an_law cd_law ct_law), sl_law⟩)
    (c_law : PySem.W.codeIn K cd_law "law" = true)
    (k_law : PySem.W.keepIn K (.ref f_law) = true)
    (ac_Barred : PySem.W.nsIn K mainGlobals "Barred" = some (some (.ref c_Barred)))
    (ac_Broken : PySem.W.nsIn K mainGlobals "Broken" = some (some (.ref c_Broken)))
    (ac_LeftError : PySem.W.nsIn K mainGlobals "LeftError" = some (some (.ref c_LeftError)))
    (ac_NoAsking : PySem.W.nsIn K mainGlobals "NoAsking" = some (some (.ref c_NoAsking)))
    (ac_NoCount : PySem.W.nsIn K mainGlobals "NoCount" = some (some (.ref c_NoCount)))
    (ac_NoDeed : PySem.W.nsIn K mainGlobals "NoDeed" = some (some (.ref c_NoDeed)))
    (ac_NoFact : PySem.W.nsIn K mainGlobals "NoFact" = some (some (.ref c_NoFact)))
    (ac_NoFeed : PySem.W.nsIn K mainGlobals "NoFeed" = some (some (.ref c_NoFeed)))
    (ac_NoKeeper : PySem.W.nsIn K mainGlobals "NoKeeper" = some (some (.ref c_NoKeeper)))
    (ac_NoLetter : PySem.W.nsIn K mainGlobals "NoLetter" = some (some (.ref c_NoLetter)))
    (ac_NoLetters : PySem.W.nsIn K mainGlobals "NoLetters" = some (some (.ref c_NoLetters)))
    (ac_NoLog : PySem.W.nsIn K mainGlobals "NoLog" = some (some (.ref c_NoLog)))
    (ac_NoMany : PySem.W.nsIn K mainGlobals "NoMany" = some (some (.ref c_NoMany)))
    (ac_NoName : PySem.W.nsIn K mainGlobals "NoName" = some (some (.ref c_NoName)))
    (ac_NoNumber : PySem.W.nsIn K mainGlobals "NoNumber" = some (some (.ref c_NoNumber)))
    (ac_NoPaper : PySem.W.nsIn K mainGlobals "NoPaper" = some (some (.ref c_NoPaper)))
    (ac_NoPast : PySem.W.nsIn K mainGlobals "NoPast" = some (some (.ref c_NoPast)))
    (ac_NoRank : PySem.W.nsIn K mainGlobals "NoRank" = some (some (.ref c_NoRank)))
    (ac_NoSize : PySem.W.nsIn K mainGlobals "NoSize" = some (some (.ref c_NoSize)))
    (ac_NoSum : PySem.W.nsIn K mainGlobals "NoSum" = some (some (.ref c_NoSum)))
    (ac_NoTally : PySem.W.nsIn K mainGlobals "NoTally" = some (some (.ref c_NoTally)))
    (ac_NoText : PySem.W.nsIn K mainGlobals "NoText" = some (some (.ref c_NoText)))
    (ac_NoTick : PySem.W.nsIn K mainGlobals "NoTick" = some (some (.ref c_NoTick)))
    (ac_NoTimes : PySem.W.nsIn K mainGlobals "NoTimes" = some (some (.ref c_NoTimes)))
    (ac_NoTruth : PySem.W.nsIn K mainGlobals "NoTruth" = some (some (.ref c_NoTruth)))
    (ac_NoWeights : PySem.W.nsIn K mainGlobals "NoWeights" = some (some (.ref c_NoWeights)))
    (ac_TooMany : PySem.W.nsIn K mainGlobals "TooMany" = some (some (.ref c_TooMany)))
    (xk_NoAsking : PySem.W.keepIn K (.ref c_NoAsking) = true)
    (xq_NoAsking : PySem.W.excIn K c_NoAsking [.type "ValueError", .type "Exception", .type "BaseException", .type "object"] "ValueError.__new__" = true)
    (xs_NoAsking : PySem.W.subIn K (.ref c_NoAsking) (.type "BaseException") = some true)
    (xt_NoAsking : PySem.W.typeIn K (.ref c_NoAsking) = some (.type "type"))
    (xi_NoAsking : PySem.W.isClsIn K c_NoAsking = true)
    (xu_NoAsking : PySem.W.subIn K (.ref c_NoAsking) (.ref c_NoAsking) = some true)
    (xg_NoAsking : PySem.W.findIn K (.ref c_NoAsking) "__getattribute__" = some (some (.builtin "BaseException.__getattribute__")))
    (xh_NoAsking : PySem.W.findIn K (.ref c_NoAsking) "__getattr__" = some none)
    (xd_NoAsking : PySem.W.hasDictIn K c_NoAsking = true)
    (xa_NoAsking : PySem.W.findIn K (.ref c_NoAsking) "__class__" = some (some (.builtin "object.__class__")))
    (xn_NoAsking : PySem.W.specialIn K (.builtin "object.__class__") "__get__" = some (some (.builtin "getset_descriptor.__get__")))
    (xw_NoAsking : PySem.W.takesIn K (.builtin "object.__class__") = some true)
    (xm_NoAsking : PySem.W.mroIn K c_NoAsking (.type "object") = some true)
    (xv_NoAsking : PySem.W.subIn K (.ref c_NoAsking) (.type "ValueError") = some true)
    (xk_NoCount : PySem.W.keepIn K (.ref c_NoCount) = true)
    (xq_NoCount : PySem.W.excIn K c_NoCount [.type "ValueError", .type "Exception", .type "BaseException", .type "object"] "ValueError.__new__" = true)
    (xs_NoCount : PySem.W.subIn K (.ref c_NoCount) (.type "BaseException") = some true)
    (xt_NoCount : PySem.W.typeIn K (.ref c_NoCount) = some (.type "type"))
    (xi_NoCount : PySem.W.isClsIn K c_NoCount = true)
    (xu_NoCount : PySem.W.subIn K (.ref c_NoCount) (.ref c_NoCount) = some true)
    (xg_NoCount : PySem.W.findIn K (.ref c_NoCount) "__getattribute__" = some (some (.builtin "BaseException.__getattribute__")))
    (xh_NoCount : PySem.W.findIn K (.ref c_NoCount) "__getattr__" = some none)
    (xd_NoCount : PySem.W.hasDictIn K c_NoCount = true)
    (xa_NoCount : PySem.W.findIn K (.ref c_NoCount) "__class__" = some (some (.builtin "object.__class__")))
    (xn_NoCount : PySem.W.specialIn K (.builtin "object.__class__") "__get__" = some (some (.builtin "getset_descriptor.__get__")))
    (xw_NoCount : PySem.W.takesIn K (.builtin "object.__class__") = some true)
    (xm_NoCount : PySem.W.mroIn K c_NoCount (.type "object") = some true)
    (xv_NoCount : PySem.W.subIn K (.ref c_NoCount) (.type "ValueError") = some true)
    (xk_NoDeed : PySem.W.keepIn K (.ref c_NoDeed) = true)
    (xq_NoDeed : PySem.W.excIn K c_NoDeed [.type "ValueError", .type "Exception", .type "BaseException", .type "object"] "ValueError.__new__" = true)
    (xs_NoDeed : PySem.W.subIn K (.ref c_NoDeed) (.type "BaseException") = some true)
    (xt_NoDeed : PySem.W.typeIn K (.ref c_NoDeed) = some (.type "type"))
    (xi_NoDeed : PySem.W.isClsIn K c_NoDeed = true)
    (xu_NoDeed : PySem.W.subIn K (.ref c_NoDeed) (.ref c_NoDeed) = some true)
    (xg_NoDeed : PySem.W.findIn K (.ref c_NoDeed) "__getattribute__" = some (some (.builtin "BaseException.__getattribute__")))
    (xh_NoDeed : PySem.W.findIn K (.ref c_NoDeed) "__getattr__" = some none)
    (xd_NoDeed : PySem.W.hasDictIn K c_NoDeed = true)
    (xa_NoDeed : PySem.W.findIn K (.ref c_NoDeed) "__class__" = some (some (.builtin "object.__class__")))
    (xn_NoDeed : PySem.W.specialIn K (.builtin "object.__class__") "__get__" = some (some (.builtin "getset_descriptor.__get__")))
    (xw_NoDeed : PySem.W.takesIn K (.builtin "object.__class__") = some true)
    (xm_NoDeed : PySem.W.mroIn K c_NoDeed (.type "object") = some true)
    (xv_NoDeed : PySem.W.subIn K (.ref c_NoDeed) (.type "ValueError") = some true)
    (xk_NoKeeper : PySem.W.keepIn K (.ref c_NoKeeper) = true)
    (xq_NoKeeper : PySem.W.excIn K c_NoKeeper [.type "ValueError", .type "Exception", .type "BaseException", .type "object"] "ValueError.__new__" = true)
    (xs_NoKeeper : PySem.W.subIn K (.ref c_NoKeeper) (.type "BaseException") = some true)
    (xt_NoKeeper : PySem.W.typeIn K (.ref c_NoKeeper) = some (.type "type"))
    (xi_NoKeeper : PySem.W.isClsIn K c_NoKeeper = true)
    (xu_NoKeeper : PySem.W.subIn K (.ref c_NoKeeper) (.ref c_NoKeeper) = some true)
    (xg_NoKeeper : PySem.W.findIn K (.ref c_NoKeeper) "__getattribute__" = some (some (.builtin "BaseException.__getattribute__")))
    (xh_NoKeeper : PySem.W.findIn K (.ref c_NoKeeper) "__getattr__" = some none)
    (xd_NoKeeper : PySem.W.hasDictIn K c_NoKeeper = true)
    (xa_NoKeeper : PySem.W.findIn K (.ref c_NoKeeper) "__class__" = some (some (.builtin "object.__class__")))
    (xn_NoKeeper : PySem.W.specialIn K (.builtin "object.__class__") "__get__" = some (some (.builtin "getset_descriptor.__get__")))
    (xw_NoKeeper : PySem.W.takesIn K (.builtin "object.__class__") = some true)
    (xm_NoKeeper : PySem.W.mroIn K c_NoKeeper (.type "object") = some true)
    (xv_NoKeeper : PySem.W.subIn K (.ref c_NoKeeper) (.type "ValueError") = some true)
    (xk_NoLetters : PySem.W.keepIn K (.ref c_NoLetters) = true)
    (xq_NoLetters : PySem.W.excIn K c_NoLetters [.type "ValueError", .type "Exception", .type "BaseException", .type "object"] "ValueError.__new__" = true)
    (xs_NoLetters : PySem.W.subIn K (.ref c_NoLetters) (.type "BaseException") = some true)
    (xt_NoLetters : PySem.W.typeIn K (.ref c_NoLetters) = some (.type "type"))
    (xi_NoLetters : PySem.W.isClsIn K c_NoLetters = true)
    (xu_NoLetters : PySem.W.subIn K (.ref c_NoLetters) (.ref c_NoLetters) = some true)
    (xg_NoLetters : PySem.W.findIn K (.ref c_NoLetters) "__getattribute__" = some (some (.builtin "BaseException.__getattribute__")))
    (xh_NoLetters : PySem.W.findIn K (.ref c_NoLetters) "__getattr__" = some none)
    (xd_NoLetters : PySem.W.hasDictIn K c_NoLetters = true)
    (xa_NoLetters : PySem.W.findIn K (.ref c_NoLetters) "__class__" = some (some (.builtin "object.__class__")))
    (xn_NoLetters : PySem.W.specialIn K (.builtin "object.__class__") "__get__" = some (some (.builtin "getset_descriptor.__get__")))
    (xw_NoLetters : PySem.W.takesIn K (.builtin "object.__class__") = some true)
    (xm_NoLetters : PySem.W.mroIn K c_NoLetters (.type "object") = some true)
    (xv_NoLetters : PySem.W.subIn K (.ref c_NoLetters) (.type "ValueError") = some true)
    (xk_NoMany : PySem.W.keepIn K (.ref c_NoMany) = true)
    (xq_NoMany : PySem.W.excIn K c_NoMany [.type "ValueError", .type "Exception", .type "BaseException", .type "object"] "ValueError.__new__" = true)
    (xs_NoMany : PySem.W.subIn K (.ref c_NoMany) (.type "BaseException") = some true)
    (xt_NoMany : PySem.W.typeIn K (.ref c_NoMany) = some (.type "type"))
    (xi_NoMany : PySem.W.isClsIn K c_NoMany = true)
    (xu_NoMany : PySem.W.subIn K (.ref c_NoMany) (.ref c_NoMany) = some true)
    (xg_NoMany : PySem.W.findIn K (.ref c_NoMany) "__getattribute__" = some (some (.builtin "BaseException.__getattribute__")))
    (xh_NoMany : PySem.W.findIn K (.ref c_NoMany) "__getattr__" = some none)
    (xd_NoMany : PySem.W.hasDictIn K c_NoMany = true)
    (xa_NoMany : PySem.W.findIn K (.ref c_NoMany) "__class__" = some (some (.builtin "object.__class__")))
    (xn_NoMany : PySem.W.specialIn K (.builtin "object.__class__") "__get__" = some (some (.builtin "getset_descriptor.__get__")))
    (xw_NoMany : PySem.W.takesIn K (.builtin "object.__class__") = some true)
    (xm_NoMany : PySem.W.mroIn K c_NoMany (.type "object") = some true)
    (xv_NoMany : PySem.W.subIn K (.ref c_NoMany) (.type "ValueError") = some true)
    (xk_NoNumber : PySem.W.keepIn K (.ref c_NoNumber) = true)
    (xq_NoNumber : PySem.W.excIn K c_NoNumber [.type "ValueError", .type "Exception", .type "BaseException", .type "object"] "ValueError.__new__" = true)
    (xs_NoNumber : PySem.W.subIn K (.ref c_NoNumber) (.type "BaseException") = some true)
    (xt_NoNumber : PySem.W.typeIn K (.ref c_NoNumber) = some (.type "type"))
    (xi_NoNumber : PySem.W.isClsIn K c_NoNumber = true)
    (xu_NoNumber : PySem.W.subIn K (.ref c_NoNumber) (.ref c_NoNumber) = some true)
    (xg_NoNumber : PySem.W.findIn K (.ref c_NoNumber) "__getattribute__" = some (some (.builtin "BaseException.__getattribute__")))
    (xh_NoNumber : PySem.W.findIn K (.ref c_NoNumber) "__getattr__" = some none)
    (xd_NoNumber : PySem.W.hasDictIn K c_NoNumber = true)
    (xa_NoNumber : PySem.W.findIn K (.ref c_NoNumber) "__class__" = some (some (.builtin "object.__class__")))
    (xn_NoNumber : PySem.W.specialIn K (.builtin "object.__class__") "__get__" = some (some (.builtin "getset_descriptor.__get__")))
    (xw_NoNumber : PySem.W.takesIn K (.builtin "object.__class__") = some true)
    (xm_NoNumber : PySem.W.mroIn K c_NoNumber (.type "object") = some true)
    (xv_NoNumber : PySem.W.subIn K (.ref c_NoNumber) (.type "ValueError") = some true)
    (xk_NoPaper : PySem.W.keepIn K (.ref c_NoPaper) = true)
    (xq_NoPaper : PySem.W.excIn K c_NoPaper [.type "ValueError", .type "Exception", .type "BaseException", .type "object"] "ValueError.__new__" = true)
    (xs_NoPaper : PySem.W.subIn K (.ref c_NoPaper) (.type "BaseException") = some true)
    (xt_NoPaper : PySem.W.typeIn K (.ref c_NoPaper) = some (.type "type"))
    (xi_NoPaper : PySem.W.isClsIn K c_NoPaper = true)
    (xu_NoPaper : PySem.W.subIn K (.ref c_NoPaper) (.ref c_NoPaper) = some true)
    (xg_NoPaper : PySem.W.findIn K (.ref c_NoPaper) "__getattribute__" = some (some (.builtin "BaseException.__getattribute__")))
    (xh_NoPaper : PySem.W.findIn K (.ref c_NoPaper) "__getattr__" = some none)
    (xd_NoPaper : PySem.W.hasDictIn K c_NoPaper = true)
    (xa_NoPaper : PySem.W.findIn K (.ref c_NoPaper) "__class__" = some (some (.builtin "object.__class__")))
    (xn_NoPaper : PySem.W.specialIn K (.builtin "object.__class__") "__get__" = some (some (.builtin "getset_descriptor.__get__")))
    (xw_NoPaper : PySem.W.takesIn K (.builtin "object.__class__") = some true)
    (xm_NoPaper : PySem.W.mroIn K c_NoPaper (.type "object") = some true)
    (xv_NoPaper : PySem.W.subIn K (.ref c_NoPaper) (.type "ValueError") = some true)
    (xk_NoRank : PySem.W.keepIn K (.ref c_NoRank) = true)
    (xq_NoRank : PySem.W.excIn K c_NoRank [.type "ValueError", .type "Exception", .type "BaseException", .type "object"] "ValueError.__new__" = true)
    (xs_NoRank : PySem.W.subIn K (.ref c_NoRank) (.type "BaseException") = some true)
    (xt_NoRank : PySem.W.typeIn K (.ref c_NoRank) = some (.type "type"))
    (xi_NoRank : PySem.W.isClsIn K c_NoRank = true)
    (xu_NoRank : PySem.W.subIn K (.ref c_NoRank) (.ref c_NoRank) = some true)
    (xg_NoRank : PySem.W.findIn K (.ref c_NoRank) "__getattribute__" = some (some (.builtin "BaseException.__getattribute__")))
    (xh_NoRank : PySem.W.findIn K (.ref c_NoRank) "__getattr__" = some none)
    (xd_NoRank : PySem.W.hasDictIn K c_NoRank = true)
    (xa_NoRank : PySem.W.findIn K (.ref c_NoRank) "__class__" = some (some (.builtin "object.__class__")))
    (xn_NoRank : PySem.W.specialIn K (.builtin "object.__class__") "__get__" = some (some (.builtin "getset_descriptor.__get__")))
    (xw_NoRank : PySem.W.takesIn K (.builtin "object.__class__") = some true)
    (xm_NoRank : PySem.W.mroIn K c_NoRank (.type "object") = some true)
    (xv_NoRank : PySem.W.subIn K (.ref c_NoRank) (.type "ValueError") = some true)
    (xk_NoSize : PySem.W.keepIn K (.ref c_NoSize) = true)
    (xq_NoSize : PySem.W.excIn K c_NoSize [.type "ValueError", .type "Exception", .type "BaseException", .type "object"] "ValueError.__new__" = true)
    (xs_NoSize : PySem.W.subIn K (.ref c_NoSize) (.type "BaseException") = some true)
    (xt_NoSize : PySem.W.typeIn K (.ref c_NoSize) = some (.type "type"))
    (xi_NoSize : PySem.W.isClsIn K c_NoSize = true)
    (xu_NoSize : PySem.W.subIn K (.ref c_NoSize) (.ref c_NoSize) = some true)
    (xg_NoSize : PySem.W.findIn K (.ref c_NoSize) "__getattribute__" = some (some (.builtin "BaseException.__getattribute__")))
    (xh_NoSize : PySem.W.findIn K (.ref c_NoSize) "__getattr__" = some none)
    (xd_NoSize : PySem.W.hasDictIn K c_NoSize = true)
    (xa_NoSize : PySem.W.findIn K (.ref c_NoSize) "__class__" = some (some (.builtin "object.__class__")))
    (xn_NoSize : PySem.W.specialIn K (.builtin "object.__class__") "__get__" = some (some (.builtin "getset_descriptor.__get__")))
    (xw_NoSize : PySem.W.takesIn K (.builtin "object.__class__") = some true)
    (xm_NoSize : PySem.W.mroIn K c_NoSize (.type "object") = some true)
    (xv_NoSize : PySem.W.subIn K (.ref c_NoSize) (.type "ValueError") = some true)
    (xk_NoSum : PySem.W.keepIn K (.ref c_NoSum) = true)
    (xq_NoSum : PySem.W.excIn K c_NoSum [.type "ValueError", .type "Exception", .type "BaseException", .type "object"] "ValueError.__new__" = true)
    (xs_NoSum : PySem.W.subIn K (.ref c_NoSum) (.type "BaseException") = some true)
    (xt_NoSum : PySem.W.typeIn K (.ref c_NoSum) = some (.type "type"))
    (xi_NoSum : PySem.W.isClsIn K c_NoSum = true)
    (xu_NoSum : PySem.W.subIn K (.ref c_NoSum) (.ref c_NoSum) = some true)
    (xg_NoSum : PySem.W.findIn K (.ref c_NoSum) "__getattribute__" = some (some (.builtin "BaseException.__getattribute__")))
    (xh_NoSum : PySem.W.findIn K (.ref c_NoSum) "__getattr__" = some none)
    (xd_NoSum : PySem.W.hasDictIn K c_NoSum = true)
    (xa_NoSum : PySem.W.findIn K (.ref c_NoSum) "__class__" = some (some (.builtin "object.__class__")))
    (xn_NoSum : PySem.W.specialIn K (.builtin "object.__class__") "__get__" = some (some (.builtin "getset_descriptor.__get__")))
    (xw_NoSum : PySem.W.takesIn K (.builtin "object.__class__") = some true)
    (xm_NoSum : PySem.W.mroIn K c_NoSum (.type "object") = some true)
    (xv_NoSum : PySem.W.subIn K (.ref c_NoSum) (.type "ValueError") = some true)
    (xk_NoTally : PySem.W.keepIn K (.ref c_NoTally) = true)
    (xq_NoTally : PySem.W.excIn K c_NoTally [.type "ValueError", .type "Exception", .type "BaseException", .type "object"] "ValueError.__new__" = true)
    (xs_NoTally : PySem.W.subIn K (.ref c_NoTally) (.type "BaseException") = some true)
    (xt_NoTally : PySem.W.typeIn K (.ref c_NoTally) = some (.type "type"))
    (xi_NoTally : PySem.W.isClsIn K c_NoTally = true)
    (xu_NoTally : PySem.W.subIn K (.ref c_NoTally) (.ref c_NoTally) = some true)
    (xg_NoTally : PySem.W.findIn K (.ref c_NoTally) "__getattribute__" = some (some (.builtin "BaseException.__getattribute__")))
    (xh_NoTally : PySem.W.findIn K (.ref c_NoTally) "__getattr__" = some none)
    (xd_NoTally : PySem.W.hasDictIn K c_NoTally = true)
    (xa_NoTally : PySem.W.findIn K (.ref c_NoTally) "__class__" = some (some (.builtin "object.__class__")))
    (xn_NoTally : PySem.W.specialIn K (.builtin "object.__class__") "__get__" = some (some (.builtin "getset_descriptor.__get__")))
    (xw_NoTally : PySem.W.takesIn K (.builtin "object.__class__") = some true)
    (xm_NoTally : PySem.W.mroIn K c_NoTally (.type "object") = some true)
    (xv_NoTally : PySem.W.subIn K (.ref c_NoTally) (.type "ValueError") = some true)
    (xk_NoTimes : PySem.W.keepIn K (.ref c_NoTimes) = true)
    (xq_NoTimes : PySem.W.excIn K c_NoTimes [.type "ValueError", .type "Exception", .type "BaseException", .type "object"] "ValueError.__new__" = true)
    (xs_NoTimes : PySem.W.subIn K (.ref c_NoTimes) (.type "BaseException") = some true)
    (xt_NoTimes : PySem.W.typeIn K (.ref c_NoTimes) = some (.type "type"))
    (xi_NoTimes : PySem.W.isClsIn K c_NoTimes = true)
    (xu_NoTimes : PySem.W.subIn K (.ref c_NoTimes) (.ref c_NoTimes) = some true)
    (xg_NoTimes : PySem.W.findIn K (.ref c_NoTimes) "__getattribute__" = some (some (.builtin "BaseException.__getattribute__")))
    (xh_NoTimes : PySem.W.findIn K (.ref c_NoTimes) "__getattr__" = some none)
    (xd_NoTimes : PySem.W.hasDictIn K c_NoTimes = true)
    (xa_NoTimes : PySem.W.findIn K (.ref c_NoTimes) "__class__" = some (some (.builtin "object.__class__")))
    (xn_NoTimes : PySem.W.specialIn K (.builtin "object.__class__") "__get__" = some (some (.builtin "getset_descriptor.__get__")))
    (xw_NoTimes : PySem.W.takesIn K (.builtin "object.__class__") = some true)
    (xm_NoTimes : PySem.W.mroIn K c_NoTimes (.type "object") = some true)
    (xv_NoTimes : PySem.W.subIn K (.ref c_NoTimes) (.type "ValueError") = some true)
    (xk_NoTruth : PySem.W.keepIn K (.ref c_NoTruth) = true)
    (xq_NoTruth : PySem.W.excIn K c_NoTruth [.type "ValueError", .type "Exception", .type "BaseException", .type "object"] "ValueError.__new__" = true)
    (xs_NoTruth : PySem.W.subIn K (.ref c_NoTruth) (.type "BaseException") = some true)
    (xt_NoTruth : PySem.W.typeIn K (.ref c_NoTruth) = some (.type "type"))
    (xi_NoTruth : PySem.W.isClsIn K c_NoTruth = true)
    (xu_NoTruth : PySem.W.subIn K (.ref c_NoTruth) (.ref c_NoTruth) = some true)
    (xg_NoTruth : PySem.W.findIn K (.ref c_NoTruth) "__getattribute__" = some (some (.builtin "BaseException.__getattribute__")))
    (xh_NoTruth : PySem.W.findIn K (.ref c_NoTruth) "__getattr__" = some none)
    (xd_NoTruth : PySem.W.hasDictIn K c_NoTruth = true)
    (xa_NoTruth : PySem.W.findIn K (.ref c_NoTruth) "__class__" = some (some (.builtin "object.__class__")))
    (xn_NoTruth : PySem.W.specialIn K (.builtin "object.__class__") "__get__" = some (some (.builtin "getset_descriptor.__get__")))
    (xw_NoTruth : PySem.W.takesIn K (.builtin "object.__class__") = some true)
    (xm_NoTruth : PySem.W.mroIn K c_NoTruth (.type "object") = some true)
    (xv_NoTruth : PySem.W.subIn K (.ref c_NoTruth) (.type "ValueError") = some true)
    (xk_NoWeights : PySem.W.keepIn K (.ref c_NoWeights) = true)
    (xq_NoWeights : PySem.W.excIn K c_NoWeights [.type "ValueError", .type "Exception", .type "BaseException", .type "object"] "ValueError.__new__" = true)
    (xs_NoWeights : PySem.W.subIn K (.ref c_NoWeights) (.type "BaseException") = some true)
    (xt_NoWeights : PySem.W.typeIn K (.ref c_NoWeights) = some (.type "type"))
    (xi_NoWeights : PySem.W.isClsIn K c_NoWeights = true)
    (xu_NoWeights : PySem.W.subIn K (.ref c_NoWeights) (.ref c_NoWeights) = some true)
    (xg_NoWeights : PySem.W.findIn K (.ref c_NoWeights) "__getattribute__" = some (some (.builtin "BaseException.__getattribute__")))
    (xh_NoWeights : PySem.W.findIn K (.ref c_NoWeights) "__getattr__" = some none)
    (xd_NoWeights : PySem.W.hasDictIn K c_NoWeights = true)
    (xa_NoWeights : PySem.W.findIn K (.ref c_NoWeights) "__class__" = some (some (.builtin "object.__class__")))
    (xn_NoWeights : PySem.W.specialIn K (.builtin "object.__class__") "__get__" = some (some (.builtin "getset_descriptor.__get__")))
    (xw_NoWeights : PySem.W.takesIn K (.builtin "object.__class__") = some true)
    (xm_NoWeights : PySem.W.mroIn K c_NoWeights (.type "object") = some true)
    (xv_NoWeights : PySem.W.subIn K (.ref c_NoWeights) (.type "ValueError") = some true)
    (xk_Barred : PySem.W.keepIn K (.ref c_Barred) = true)
    (xs_Barred : PySem.W.subIn K (.ref c_Barred) (.type "BaseException") = some true)
    (xt_Barred : PySem.W.typeIn K (.ref c_Barred) = some (.type "type"))
    (xg_Barred : PySem.W.findIn K (.ref c_Barred) "__getattribute__" = some (some (.builtin "BaseException.__getattribute__")))
    (xh_Barred : PySem.W.findIn K (.ref c_Barred) "__getattr__" = some none)
    (xd_Barred : PySem.W.hasDictIn K c_Barred = true)
    (xa_Barred : PySem.W.findIn K (.ref c_Barred) "__class__" = some (some (.builtin "object.__class__")))
    (xn_Barred : PySem.W.specialIn K (.builtin "object.__class__") "__get__" = some (some (.builtin "getset_descriptor.__get__")))
    (xw_Barred : PySem.W.takesIn K (.builtin "object.__class__") = some true)
    (xm_Barred : PySem.W.mroIn K c_Barred (.type "object") = some true)
    (xv_Barred : PySem.W.subIn K (.ref c_Barred) (.type "ValueError") = some true)
    (yo_Barred : BE.oexIn K c_Barred = true)
    (ya_Barred : PySem.W.findIn K (.ref c_Barred) "__setattr__" = some (some (.builtin "object.__setattr__")))
    (t_Barred___init__ : PySem.W.findIn K (.ref c_Barred) "__init__" = some (some (.ref f_Barred___init__)))
    (yt_Barred : PySem.W.typeIn K (.ref f_Barred___init__) = some (.type "function"))
    (yf_some_Barred : PySem.W.findIn K (.ref c_Barred) "some" = some none)
    (yf_word_Barred : PySem.W.findIn K (.ref c_Barred) "word" = some none)
    (xu_Barred : PySem.W.subIn K (.ref c_Barred) (.ref c_Barred) = some true)
    (yx_Barred : xfB K c_Barred = true)
    (xk_Broken : PySem.W.keepIn K (.ref c_Broken) = true)
    (xs_Broken : PySem.W.subIn K (.ref c_Broken) (.type "BaseException") = some true)
    (xt_Broken : PySem.W.typeIn K (.ref c_Broken) = some (.type "type"))
    (xg_Broken : PySem.W.findIn K (.ref c_Broken) "__getattribute__" = some (some (.builtin "BaseException.__getattribute__")))
    (xh_Broken : PySem.W.findIn K (.ref c_Broken) "__getattr__" = some none)
    (xd_Broken : PySem.W.hasDictIn K c_Broken = true)
    (xa_Broken : PySem.W.findIn K (.ref c_Broken) "__class__" = some (some (.builtin "object.__class__")))
    (xn_Broken : PySem.W.specialIn K (.builtin "object.__class__") "__get__" = some (some (.builtin "getset_descriptor.__get__")))
    (xw_Broken : PySem.W.takesIn K (.builtin "object.__class__") = some true)
    (xm_Broken : PySem.W.mroIn K c_Broken (.type "object") = some true)
    (xv_Broken : PySem.W.subIn K (.ref c_Broken) (.type "ValueError") = some true)
    (yo_Broken : BE.oexIn K c_Broken = true)
    (ya_Broken : PySem.W.findIn K (.ref c_Broken) "__setattr__" = some (some (.builtin "object.__setattr__")))
    (t_Broken___init__ : PySem.W.findIn K (.ref c_Broken) "__init__" = some (some (.ref f_Broken___init__)))
    (yt_Broken : PySem.W.typeIn K (.ref f_Broken___init__) = some (.type "function"))
    (yf_at_Broken : PySem.W.findIn K (.ref c_Broken) "at" = some none)
    (xu_Broken : PySem.W.subIn K (.ref c_Broken) (.ref c_Broken) = some true)
    (yx_Broken : xfB K c_Broken = true)
    (xk_NoFact : PySem.W.keepIn K (.ref c_NoFact) = true)
    (xs_NoFact : PySem.W.subIn K (.ref c_NoFact) (.type "BaseException") = some true)
    (xt_NoFact : PySem.W.typeIn K (.ref c_NoFact) = some (.type "type"))
    (xg_NoFact : PySem.W.findIn K (.ref c_NoFact) "__getattribute__" = some (some (.builtin "BaseException.__getattribute__")))
    (xh_NoFact : PySem.W.findIn K (.ref c_NoFact) "__getattr__" = some none)
    (xd_NoFact : PySem.W.hasDictIn K c_NoFact = true)
    (xa_NoFact : PySem.W.findIn K (.ref c_NoFact) "__class__" = some (some (.builtin "object.__class__")))
    (xn_NoFact : PySem.W.specialIn K (.builtin "object.__class__") "__get__" = some (some (.builtin "getset_descriptor.__get__")))
    (xw_NoFact : PySem.W.takesIn K (.builtin "object.__class__") = some true)
    (xm_NoFact : PySem.W.mroIn K c_NoFact (.type "object") = some true)
    (xv_NoFact : PySem.W.subIn K (.ref c_NoFact) (.type "ValueError") = some true)
    (yo_NoFact : BE.oexIn K c_NoFact = true)
    (ya_NoFact : PySem.W.findIn K (.ref c_NoFact) "__setattr__" = some (some (.builtin "object.__setattr__")))
    (t_NoFact___init__ : PySem.W.findIn K (.ref c_NoFact) "__init__" = some (some (.ref f_NoFact___init__)))
    (yt_NoFact : PySem.W.typeIn K (.ref f_NoFact___init__) = some (.type "function"))
    (yf_at_NoFact : PySem.W.findIn K (.ref c_NoFact) "at" = some none)
    (xu_NoFact : PySem.W.subIn K (.ref c_NoFact) (.ref c_NoFact) = some true)
    (yx_NoFact : xfB K c_NoFact = true)
    (xk_NoFeed : PySem.W.keepIn K (.ref c_NoFeed) = true)
    (xs_NoFeed : PySem.W.subIn K (.ref c_NoFeed) (.type "BaseException") = some true)
    (xt_NoFeed : PySem.W.typeIn K (.ref c_NoFeed) = some (.type "type"))
    (xg_NoFeed : PySem.W.findIn K (.ref c_NoFeed) "__getattribute__" = some (some (.builtin "BaseException.__getattribute__")))
    (xh_NoFeed : PySem.W.findIn K (.ref c_NoFeed) "__getattr__" = some none)
    (xd_NoFeed : PySem.W.hasDictIn K c_NoFeed = true)
    (xa_NoFeed : PySem.W.findIn K (.ref c_NoFeed) "__class__" = some (some (.builtin "object.__class__")))
    (xn_NoFeed : PySem.W.specialIn K (.builtin "object.__class__") "__get__" = some (some (.builtin "getset_descriptor.__get__")))
    (xw_NoFeed : PySem.W.takesIn K (.builtin "object.__class__") = some true)
    (xm_NoFeed : PySem.W.mroIn K c_NoFeed (.type "object") = some true)
    (xv_NoFeed : PySem.W.subIn K (.ref c_NoFeed) (.type "ValueError") = some true)
    (yo_NoFeed : BE.oexIn K c_NoFeed = true)
    (ya_NoFeed : PySem.W.findIn K (.ref c_NoFeed) "__setattr__" = some (some (.builtin "object.__setattr__")))
    (t_NoFeed___init__ : PySem.W.findIn K (.ref c_NoFeed) "__init__" = some (some (.ref f_NoFeed___init__)))
    (yt_NoFeed : PySem.W.typeIn K (.ref f_NoFeed___init__) = some (.type "function"))
    (yf_at_NoFeed : PySem.W.findIn K (.ref c_NoFeed) "at" = some none)
    (xu_NoFeed : PySem.W.subIn K (.ref c_NoFeed) (.ref c_NoFeed) = some true)
    (yx_NoFeed : xfB K c_NoFeed = true)
    (xk_NoLetter : PySem.W.keepIn K (.ref c_NoLetter) = true)
    (xs_NoLetter : PySem.W.subIn K (.ref c_NoLetter) (.type "BaseException") = some true)
    (xt_NoLetter : PySem.W.typeIn K (.ref c_NoLetter) = some (.type "type"))
    (xg_NoLetter : PySem.W.findIn K (.ref c_NoLetter) "__getattribute__" = some (some (.builtin "BaseException.__getattribute__")))
    (xh_NoLetter : PySem.W.findIn K (.ref c_NoLetter) "__getattr__" = some none)
    (xd_NoLetter : PySem.W.hasDictIn K c_NoLetter = true)
    (xa_NoLetter : PySem.W.findIn K (.ref c_NoLetter) "__class__" = some (some (.builtin "object.__class__")))
    (xn_NoLetter : PySem.W.specialIn K (.builtin "object.__class__") "__get__" = some (some (.builtin "getset_descriptor.__get__")))
    (xw_NoLetter : PySem.W.takesIn K (.builtin "object.__class__") = some true)
    (xm_NoLetter : PySem.W.mroIn K c_NoLetter (.type "object") = some true)
    (xv_NoLetter : PySem.W.subIn K (.ref c_NoLetter) (.type "ValueError") = some true)
    (yo_NoLetter : BE.oexIn K c_NoLetter = true)
    (ya_NoLetter : PySem.W.findIn K (.ref c_NoLetter) "__setattr__" = some (some (.builtin "object.__setattr__")))
    (t_NoLetter___init__ : PySem.W.findIn K (.ref c_NoLetter) "__init__" = some (some (.ref f_NoLetter___init__)))
    (yt_NoLetter : PySem.W.typeIn K (.ref f_NoLetter___init__) = some (.type "function"))
    (yf_name_NoLetter : PySem.W.findIn K (.ref c_NoLetter) "name" = some none)
    (xu_NoLetter : PySem.W.subIn K (.ref c_NoLetter) (.ref c_NoLetter) = some true)
    (yx_NoLetter : xfB K c_NoLetter = true)
    (xk_NoLog : PySem.W.keepIn K (.ref c_NoLog) = true)
    (xs_NoLog : PySem.W.subIn K (.ref c_NoLog) (.type "BaseException") = some true)
    (xt_NoLog : PySem.W.typeIn K (.ref c_NoLog) = some (.type "type"))
    (xg_NoLog : PySem.W.findIn K (.ref c_NoLog) "__getattribute__" = some (some (.builtin "BaseException.__getattribute__")))
    (xh_NoLog : PySem.W.findIn K (.ref c_NoLog) "__getattr__" = some none)
    (xd_NoLog : PySem.W.hasDictIn K c_NoLog = true)
    (xa_NoLog : PySem.W.findIn K (.ref c_NoLog) "__class__" = some (some (.builtin "object.__class__")))
    (xn_NoLog : PySem.W.specialIn K (.builtin "object.__class__") "__get__" = some (some (.builtin "getset_descriptor.__get__")))
    (xw_NoLog : PySem.W.takesIn K (.builtin "object.__class__") = some true)
    (xm_NoLog : PySem.W.mroIn K c_NoLog (.type "object") = some true)
    (xv_NoLog : PySem.W.subIn K (.ref c_NoLog) (.type "ValueError") = some true)
    (yo_NoLog : BE.oexIn K c_NoLog = true)
    (ya_NoLog : PySem.W.findIn K (.ref c_NoLog) "__setattr__" = some (some (.builtin "object.__setattr__")))
    (t_NoLog___init__ : PySem.W.findIn K (.ref c_NoLog) "__init__" = some (some (.ref f_NoLog___init__)))
    (yt_NoLog : PySem.W.typeIn K (.ref f_NoLog___init__) = some (.type "function"))
    (yf_at_NoLog : PySem.W.findIn K (.ref c_NoLog) "at" = some none)
    (xu_NoLog : PySem.W.subIn K (.ref c_NoLog) (.ref c_NoLog) = some true)
    (yx_NoLog : xfB K c_NoLog = true)
    (xk_NoName : PySem.W.keepIn K (.ref c_NoName) = true)
    (xs_NoName : PySem.W.subIn K (.ref c_NoName) (.type "BaseException") = some true)
    (xt_NoName : PySem.W.typeIn K (.ref c_NoName) = some (.type "type"))
    (xg_NoName : PySem.W.findIn K (.ref c_NoName) "__getattribute__" = some (some (.builtin "BaseException.__getattribute__")))
    (xh_NoName : PySem.W.findIn K (.ref c_NoName) "__getattr__" = some none)
    (xd_NoName : PySem.W.hasDictIn K c_NoName = true)
    (xa_NoName : PySem.W.findIn K (.ref c_NoName) "__class__" = some (some (.builtin "object.__class__")))
    (xn_NoName : PySem.W.specialIn K (.builtin "object.__class__") "__get__" = some (some (.builtin "getset_descriptor.__get__")))
    (xw_NoName : PySem.W.takesIn K (.builtin "object.__class__") = some true)
    (xm_NoName : PySem.W.mroIn K c_NoName (.type "object") = some true)
    (xv_NoName : PySem.W.subIn K (.ref c_NoName) (.type "ValueError") = some true)
    (yo_NoName : BE.oexIn K c_NoName = true)
    (ya_NoName : PySem.W.findIn K (.ref c_NoName) "__setattr__" = some (some (.builtin "object.__setattr__")))
    (t_NoName___init__ : PySem.W.findIn K (.ref c_NoName) "__init__" = some (some (.ref f_NoName___init__)))
    (yt_NoName : PySem.W.typeIn K (.ref f_NoName___init__) = some (.type "function"))
    (yf_name_NoName : PySem.W.findIn K (.ref c_NoName) "name" = some none)
    (xu_NoName : PySem.W.subIn K (.ref c_NoName) (.ref c_NoName) = some true)
    (yx_NoName : xfB K c_NoName = true)
    (xk_NoPast : PySem.W.keepIn K (.ref c_NoPast) = true)
    (xs_NoPast : PySem.W.subIn K (.ref c_NoPast) (.type "BaseException") = some true)
    (xt_NoPast : PySem.W.typeIn K (.ref c_NoPast) = some (.type "type"))
    (xg_NoPast : PySem.W.findIn K (.ref c_NoPast) "__getattribute__" = some (some (.builtin "BaseException.__getattribute__")))
    (xh_NoPast : PySem.W.findIn K (.ref c_NoPast) "__getattr__" = some none)
    (xd_NoPast : PySem.W.hasDictIn K c_NoPast = true)
    (xa_NoPast : PySem.W.findIn K (.ref c_NoPast) "__class__" = some (some (.builtin "object.__class__")))
    (xn_NoPast : PySem.W.specialIn K (.builtin "object.__class__") "__get__" = some (some (.builtin "getset_descriptor.__get__")))
    (xw_NoPast : PySem.W.takesIn K (.builtin "object.__class__") = some true)
    (xm_NoPast : PySem.W.mroIn K c_NoPast (.type "object") = some true)
    (xv_NoPast : PySem.W.subIn K (.ref c_NoPast) (.type "ValueError") = some true)
    (yo_NoPast : BE.oexIn K c_NoPast = true)
    (ya_NoPast : PySem.W.findIn K (.ref c_NoPast) "__setattr__" = some (some (.builtin "object.__setattr__")))
    (t_NoPast___init__ : PySem.W.findIn K (.ref c_NoPast) "__init__" = some (some (.ref f_NoPast___init__)))
    (yt_NoPast : PySem.W.typeIn K (.ref f_NoPast___init__) = some (.type "function"))
    (yf_at_NoPast : PySem.W.findIn K (.ref c_NoPast) "at" = some none)
    (xu_NoPast : PySem.W.subIn K (.ref c_NoPast) (.ref c_NoPast) = some true)
    (yx_NoPast : xfB K c_NoPast = true)
    (xk_NoText : PySem.W.keepIn K (.ref c_NoText) = true)
    (xs_NoText : PySem.W.subIn K (.ref c_NoText) (.type "BaseException") = some true)
    (xt_NoText : PySem.W.typeIn K (.ref c_NoText) = some (.type "type"))
    (xg_NoText : PySem.W.findIn K (.ref c_NoText) "__getattribute__" = some (some (.builtin "BaseException.__getattribute__")))
    (xh_NoText : PySem.W.findIn K (.ref c_NoText) "__getattr__" = some none)
    (xd_NoText : PySem.W.hasDictIn K c_NoText = true)
    (xa_NoText : PySem.W.findIn K (.ref c_NoText) "__class__" = some (some (.builtin "object.__class__")))
    (xn_NoText : PySem.W.specialIn K (.builtin "object.__class__") "__get__" = some (some (.builtin "getset_descriptor.__get__")))
    (xw_NoText : PySem.W.takesIn K (.builtin "object.__class__") = some true)
    (xm_NoText : PySem.W.mroIn K c_NoText (.type "object") = some true)
    (xv_NoText : PySem.W.subIn K (.ref c_NoText) (.type "ValueError") = some true)
    (yo_NoText : BE.oexIn K c_NoText = true)
    (ya_NoText : PySem.W.findIn K (.ref c_NoText) "__setattr__" = some (some (.builtin "object.__setattr__")))
    (t_NoText___init__ : PySem.W.findIn K (.ref c_NoText) "__init__" = some (some (.ref f_NoText___init__)))
    (yt_NoText : PySem.W.typeIn K (.ref f_NoText___init__) = some (.type "function"))
    (yf_row_NoText : PySem.W.findIn K (.ref c_NoText) "row" = some none)
    (xu_NoText : PySem.W.subIn K (.ref c_NoText) (.ref c_NoText) = some true)
    (yx_NoText : xfB K c_NoText = true)
    (xk_NoTick : PySem.W.keepIn K (.ref c_NoTick) = true)
    (xs_NoTick : PySem.W.subIn K (.ref c_NoTick) (.type "BaseException") = some true)
    (xt_NoTick : PySem.W.typeIn K (.ref c_NoTick) = some (.type "type"))
    (xg_NoTick : PySem.W.findIn K (.ref c_NoTick) "__getattribute__" = some (some (.builtin "BaseException.__getattribute__")))
    (xh_NoTick : PySem.W.findIn K (.ref c_NoTick) "__getattr__" = some none)
    (xd_NoTick : PySem.W.hasDictIn K c_NoTick = true)
    (xa_NoTick : PySem.W.findIn K (.ref c_NoTick) "__class__" = some (some (.builtin "object.__class__")))
    (xn_NoTick : PySem.W.specialIn K (.builtin "object.__class__") "__get__" = some (some (.builtin "getset_descriptor.__get__")))
    (xw_NoTick : PySem.W.takesIn K (.builtin "object.__class__") = some true)
    (xm_NoTick : PySem.W.mroIn K c_NoTick (.type "object") = some true)
    (xv_NoTick : PySem.W.subIn K (.ref c_NoTick) (.type "ValueError") = some true)
    (yo_NoTick : BE.oexIn K c_NoTick = true)
    (ya_NoTick : PySem.W.findIn K (.ref c_NoTick) "__setattr__" = some (some (.builtin "object.__setattr__")))
    (t_NoTick___init__ : PySem.W.findIn K (.ref c_NoTick) "__init__" = some (some (.ref f_NoTick___init__)))
    (yt_NoTick : PySem.W.typeIn K (.ref f_NoTick___init__) = some (.type "function"))
    (yf_at_NoTick : PySem.W.findIn K (.ref c_NoTick) "at" = some none)
    (xu_NoTick : PySem.W.subIn K (.ref c_NoTick) (.ref c_NoTick) = some true)
    (yx_NoTick : xfB K c_NoTick = true)
    (xk_TooMany : PySem.W.keepIn K (.ref c_TooMany) = true)
    (xs_TooMany : PySem.W.subIn K (.ref c_TooMany) (.type "BaseException") = some true)
    (xt_TooMany : PySem.W.typeIn K (.ref c_TooMany) = some (.type "type"))
    (xg_TooMany : PySem.W.findIn K (.ref c_TooMany) "__getattribute__" = some (some (.builtin "BaseException.__getattribute__")))
    (xh_TooMany : PySem.W.findIn K (.ref c_TooMany) "__getattr__" = some none)
    (xd_TooMany : PySem.W.hasDictIn K c_TooMany = true)
    (xa_TooMany : PySem.W.findIn K (.ref c_TooMany) "__class__" = some (some (.builtin "object.__class__")))
    (xn_TooMany : PySem.W.specialIn K (.builtin "object.__class__") "__get__" = some (some (.builtin "getset_descriptor.__get__")))
    (xw_TooMany : PySem.W.takesIn K (.builtin "object.__class__") = some true)
    (xm_TooMany : PySem.W.mroIn K c_TooMany (.type "object") = some true)
    (xv_TooMany : PySem.W.subIn K (.ref c_TooMany) (.type "ValueError") = some true)
    (yo_TooMany : BE.oexIn K c_TooMany = true)
    (ya_TooMany : PySem.W.findIn K (.ref c_TooMany) "__setattr__" = some (some (.builtin "object.__setattr__")))
    (t_TooMany___init__ : PySem.W.findIn K (.ref c_TooMany) "__init__" = some (some (.ref f_TooMany___init__)))
    (yt_TooMany : PySem.W.typeIn K (.ref f_TooMany___init__) = some (.type "function"))
    (yf_limit_TooMany : PySem.W.findIn K (.ref c_TooMany) "limit" = some none)
    (xu_TooMany : PySem.W.subIn K (.ref c_TooMany) (.ref c_TooMany) = some true)
    (yx_TooMany : xfB K c_TooMany = true)
    (yk_NoLetters : kitRow K c_NoLetters [c_NoLetters, c_NoLetter, c_NoFeed, c_NoMany, c_NoTimes, c_NoKeeper, c_NoSum, c_NoPast, c_NoTally, c_NoFact, c_Barred, c_NoWeights, c_NoPaper, c_NoCount, c_TooMany, c_NoSize, c_NoNumber, c_NoRank, c_NoTruth, c_NoTick, c_NoAsking, c_NoDeed, c_NoName, c_Broken, c_NoLog, c_NoText] 0 = true)
    (yl_NoLetters : PySem.W.kitOne K (.ref c_NoLetters) (.ref c_LeftError) = some true)
    (yk_NoLetter : kitRow K c_NoLetter [c_NoLetters, c_NoLetter, c_NoFeed, c_NoMany, c_NoTimes, c_NoKeeper, c_NoSum, c_NoPast, c_NoTally, c_NoFact, c_Barred, c_NoWeights, c_NoPaper, c_NoCount, c_TooMany, c_NoSize, c_NoNumber, c_NoRank, c_NoTruth, c_NoTick, c_NoAsking, c_NoDeed, c_NoName, c_Broken, c_NoLog, c_NoText] 1 = true)
    (yl_NoLetter : PySem.W.kitOne K (.ref c_NoLetter) (.ref c_LeftError) = some true)
    (yk_NoFeed : kitRow K c_NoFeed [c_NoLetters, c_NoLetter, c_NoFeed, c_NoMany, c_NoTimes, c_NoKeeper, c_NoSum, c_NoPast, c_NoTally, c_NoFact, c_Barred, c_NoWeights, c_NoPaper, c_NoCount, c_TooMany, c_NoSize, c_NoNumber, c_NoRank, c_NoTruth, c_NoTick, c_NoAsking, c_NoDeed, c_NoName, c_Broken, c_NoLog, c_NoText] 2 = true)
    (yl_NoFeed : PySem.W.kitOne K (.ref c_NoFeed) (.ref c_LeftError) = some true)
    (yk_NoMany : kitRow K c_NoMany [c_NoLetters, c_NoLetter, c_NoFeed, c_NoMany, c_NoTimes, c_NoKeeper, c_NoSum, c_NoPast, c_NoTally, c_NoFact, c_Barred, c_NoWeights, c_NoPaper, c_NoCount, c_TooMany, c_NoSize, c_NoNumber, c_NoRank, c_NoTruth, c_NoTick, c_NoAsking, c_NoDeed, c_NoName, c_Broken, c_NoLog, c_NoText] 3 = true)
    (yl_NoMany : PySem.W.kitOne K (.ref c_NoMany) (.ref c_LeftError) = some true)
    (yk_NoTimes : kitRow K c_NoTimes [c_NoLetters, c_NoLetter, c_NoFeed, c_NoMany, c_NoTimes, c_NoKeeper, c_NoSum, c_NoPast, c_NoTally, c_NoFact, c_Barred, c_NoWeights, c_NoPaper, c_NoCount, c_TooMany, c_NoSize, c_NoNumber, c_NoRank, c_NoTruth, c_NoTick, c_NoAsking, c_NoDeed, c_NoName, c_Broken, c_NoLog, c_NoText] 4 = true)
    (yl_NoTimes : PySem.W.kitOne K (.ref c_NoTimes) (.ref c_LeftError) = some true)
    (yk_NoKeeper : kitRow K c_NoKeeper [c_NoLetters, c_NoLetter, c_NoFeed, c_NoMany, c_NoTimes, c_NoKeeper, c_NoSum, c_NoPast, c_NoTally, c_NoFact, c_Barred, c_NoWeights, c_NoPaper, c_NoCount, c_TooMany, c_NoSize, c_NoNumber, c_NoRank, c_NoTruth, c_NoTick, c_NoAsking, c_NoDeed, c_NoName, c_Broken, c_NoLog, c_NoText] 5 = true)
    (yl_NoKeeper : PySem.W.kitOne K (.ref c_NoKeeper) (.ref c_LeftError) = some true)
    (yk_NoSum : kitRow K c_NoSum [c_NoLetters, c_NoLetter, c_NoFeed, c_NoMany, c_NoTimes, c_NoKeeper, c_NoSum, c_NoPast, c_NoTally, c_NoFact, c_Barred, c_NoWeights, c_NoPaper, c_NoCount, c_TooMany, c_NoSize, c_NoNumber, c_NoRank, c_NoTruth, c_NoTick, c_NoAsking, c_NoDeed, c_NoName, c_Broken, c_NoLog, c_NoText] 6 = true)
    (yl_NoSum : PySem.W.kitOne K (.ref c_NoSum) (.ref c_LeftError) = some true)
    (yk_NoPast : kitRow K c_NoPast [c_NoLetters, c_NoLetter, c_NoFeed, c_NoMany, c_NoTimes, c_NoKeeper, c_NoSum, c_NoPast, c_NoTally, c_NoFact, c_Barred, c_NoWeights, c_NoPaper, c_NoCount, c_TooMany, c_NoSize, c_NoNumber, c_NoRank, c_NoTruth, c_NoTick, c_NoAsking, c_NoDeed, c_NoName, c_Broken, c_NoLog, c_NoText] 7 = true)
    (yl_NoPast : PySem.W.kitOne K (.ref c_NoPast) (.ref c_LeftError) = some true)
    (yk_NoTally : kitRow K c_NoTally [c_NoLetters, c_NoLetter, c_NoFeed, c_NoMany, c_NoTimes, c_NoKeeper, c_NoSum, c_NoPast, c_NoTally, c_NoFact, c_Barred, c_NoWeights, c_NoPaper, c_NoCount, c_TooMany, c_NoSize, c_NoNumber, c_NoRank, c_NoTruth, c_NoTick, c_NoAsking, c_NoDeed, c_NoName, c_Broken, c_NoLog, c_NoText] 8 = true)
    (yl_NoTally : PySem.W.kitOne K (.ref c_NoTally) (.ref c_LeftError) = some true)
    (yk_NoFact : kitRow K c_NoFact [c_NoLetters, c_NoLetter, c_NoFeed, c_NoMany, c_NoTimes, c_NoKeeper, c_NoSum, c_NoPast, c_NoTally, c_NoFact, c_Barred, c_NoWeights, c_NoPaper, c_NoCount, c_TooMany, c_NoSize, c_NoNumber, c_NoRank, c_NoTruth, c_NoTick, c_NoAsking, c_NoDeed, c_NoName, c_Broken, c_NoLog, c_NoText] 9 = true)
    (yl_NoFact : PySem.W.kitOne K (.ref c_NoFact) (.ref c_LeftError) = some true)
    (yk_Barred : kitRow K c_Barred [c_NoLetters, c_NoLetter, c_NoFeed, c_NoMany, c_NoTimes, c_NoKeeper, c_NoSum, c_NoPast, c_NoTally, c_NoFact, c_Barred, c_NoWeights, c_NoPaper, c_NoCount, c_TooMany, c_NoSize, c_NoNumber, c_NoRank, c_NoTruth, c_NoTick, c_NoAsking, c_NoDeed, c_NoName, c_Broken, c_NoLog, c_NoText] 10 = true)
    (yl_Barred : PySem.W.kitOne K (.ref c_Barred) (.ref c_LeftError) = some true)
    (yk_NoWeights : kitRow K c_NoWeights [c_NoLetters, c_NoLetter, c_NoFeed, c_NoMany, c_NoTimes, c_NoKeeper, c_NoSum, c_NoPast, c_NoTally, c_NoFact, c_Barred, c_NoWeights, c_NoPaper, c_NoCount, c_TooMany, c_NoSize, c_NoNumber, c_NoRank, c_NoTruth, c_NoTick, c_NoAsking, c_NoDeed, c_NoName, c_Broken, c_NoLog, c_NoText] 11 = true)
    (yl_NoWeights : PySem.W.kitOne K (.ref c_NoWeights) (.ref c_LeftError) = some true)
    (yk_NoPaper : kitRow K c_NoPaper [c_NoLetters, c_NoLetter, c_NoFeed, c_NoMany, c_NoTimes, c_NoKeeper, c_NoSum, c_NoPast, c_NoTally, c_NoFact, c_Barred, c_NoWeights, c_NoPaper, c_NoCount, c_TooMany, c_NoSize, c_NoNumber, c_NoRank, c_NoTruth, c_NoTick, c_NoAsking, c_NoDeed, c_NoName, c_Broken, c_NoLog, c_NoText] 12 = true)
    (yl_NoPaper : PySem.W.kitOne K (.ref c_NoPaper) (.ref c_LeftError) = some true)
    (yk_NoCount : kitRow K c_NoCount [c_NoLetters, c_NoLetter, c_NoFeed, c_NoMany, c_NoTimes, c_NoKeeper, c_NoSum, c_NoPast, c_NoTally, c_NoFact, c_Barred, c_NoWeights, c_NoPaper, c_NoCount, c_TooMany, c_NoSize, c_NoNumber, c_NoRank, c_NoTruth, c_NoTick, c_NoAsking, c_NoDeed, c_NoName, c_Broken, c_NoLog, c_NoText] 13 = true)
    (yl_NoCount : PySem.W.kitOne K (.ref c_NoCount) (.ref c_LeftError) = some true)
    (yk_TooMany : kitRow K c_TooMany [c_NoLetters, c_NoLetter, c_NoFeed, c_NoMany, c_NoTimes, c_NoKeeper, c_NoSum, c_NoPast, c_NoTally, c_NoFact, c_Barred, c_NoWeights, c_NoPaper, c_NoCount, c_TooMany, c_NoSize, c_NoNumber, c_NoRank, c_NoTruth, c_NoTick, c_NoAsking, c_NoDeed, c_NoName, c_Broken, c_NoLog, c_NoText] 14 = true)
    (yl_TooMany : PySem.W.kitOne K (.ref c_TooMany) (.ref c_LeftError) = some true)
    (yk_NoSize : kitRow K c_NoSize [c_NoLetters, c_NoLetter, c_NoFeed, c_NoMany, c_NoTimes, c_NoKeeper, c_NoSum, c_NoPast, c_NoTally, c_NoFact, c_Barred, c_NoWeights, c_NoPaper, c_NoCount, c_TooMany, c_NoSize, c_NoNumber, c_NoRank, c_NoTruth, c_NoTick, c_NoAsking, c_NoDeed, c_NoName, c_Broken, c_NoLog, c_NoText] 15 = true)
    (yl_NoSize : PySem.W.kitOne K (.ref c_NoSize) (.ref c_LeftError) = some true)
    (yk_NoNumber : kitRow K c_NoNumber [c_NoLetters, c_NoLetter, c_NoFeed, c_NoMany, c_NoTimes, c_NoKeeper, c_NoSum, c_NoPast, c_NoTally, c_NoFact, c_Barred, c_NoWeights, c_NoPaper, c_NoCount, c_TooMany, c_NoSize, c_NoNumber, c_NoRank, c_NoTruth, c_NoTick, c_NoAsking, c_NoDeed, c_NoName, c_Broken, c_NoLog, c_NoText] 16 = true)
    (yl_NoNumber : PySem.W.kitOne K (.ref c_NoNumber) (.ref c_LeftError) = some true)
    (yk_NoRank : kitRow K c_NoRank [c_NoLetters, c_NoLetter, c_NoFeed, c_NoMany, c_NoTimes, c_NoKeeper, c_NoSum, c_NoPast, c_NoTally, c_NoFact, c_Barred, c_NoWeights, c_NoPaper, c_NoCount, c_TooMany, c_NoSize, c_NoNumber, c_NoRank, c_NoTruth, c_NoTick, c_NoAsking, c_NoDeed, c_NoName, c_Broken, c_NoLog, c_NoText] 17 = true)
    (yl_NoRank : PySem.W.kitOne K (.ref c_NoRank) (.ref c_LeftError) = some true)
    (yk_NoTruth : kitRow K c_NoTruth [c_NoLetters, c_NoLetter, c_NoFeed, c_NoMany, c_NoTimes, c_NoKeeper, c_NoSum, c_NoPast, c_NoTally, c_NoFact, c_Barred, c_NoWeights, c_NoPaper, c_NoCount, c_TooMany, c_NoSize, c_NoNumber, c_NoRank, c_NoTruth, c_NoTick, c_NoAsking, c_NoDeed, c_NoName, c_Broken, c_NoLog, c_NoText] 18 = true)
    (yl_NoTruth : PySem.W.kitOne K (.ref c_NoTruth) (.ref c_LeftError) = some true)
    (yk_NoTick : kitRow K c_NoTick [c_NoLetters, c_NoLetter, c_NoFeed, c_NoMany, c_NoTimes, c_NoKeeper, c_NoSum, c_NoPast, c_NoTally, c_NoFact, c_Barred, c_NoWeights, c_NoPaper, c_NoCount, c_TooMany, c_NoSize, c_NoNumber, c_NoRank, c_NoTruth, c_NoTick, c_NoAsking, c_NoDeed, c_NoName, c_Broken, c_NoLog, c_NoText] 19 = true)
    (yl_NoTick : PySem.W.kitOne K (.ref c_NoTick) (.ref c_LeftError) = some true)
    (yk_NoAsking : kitRow K c_NoAsking [c_NoLetters, c_NoLetter, c_NoFeed, c_NoMany, c_NoTimes, c_NoKeeper, c_NoSum, c_NoPast, c_NoTally, c_NoFact, c_Barred, c_NoWeights, c_NoPaper, c_NoCount, c_TooMany, c_NoSize, c_NoNumber, c_NoRank, c_NoTruth, c_NoTick, c_NoAsking, c_NoDeed, c_NoName, c_Broken, c_NoLog, c_NoText] 20 = true)
    (yl_NoAsking : PySem.W.kitOne K (.ref c_NoAsking) (.ref c_LeftError) = some true)
    (yk_NoDeed : kitRow K c_NoDeed [c_NoLetters, c_NoLetter, c_NoFeed, c_NoMany, c_NoTimes, c_NoKeeper, c_NoSum, c_NoPast, c_NoTally, c_NoFact, c_Barred, c_NoWeights, c_NoPaper, c_NoCount, c_TooMany, c_NoSize, c_NoNumber, c_NoRank, c_NoTruth, c_NoTick, c_NoAsking, c_NoDeed, c_NoName, c_Broken, c_NoLog, c_NoText] 21 = true)
    (yl_NoDeed : PySem.W.kitOne K (.ref c_NoDeed) (.ref c_LeftError) = some true)
    (yk_NoName : kitRow K c_NoName [c_NoLetters, c_NoLetter, c_NoFeed, c_NoMany, c_NoTimes, c_NoKeeper, c_NoSum, c_NoPast, c_NoTally, c_NoFact, c_Barred, c_NoWeights, c_NoPaper, c_NoCount, c_TooMany, c_NoSize, c_NoNumber, c_NoRank, c_NoTruth, c_NoTick, c_NoAsking, c_NoDeed, c_NoName, c_Broken, c_NoLog, c_NoText] 22 = true)
    (yl_NoName : PySem.W.kitOne K (.ref c_NoName) (.ref c_LeftError) = some true)
    (yk_Broken : kitRow K c_Broken [c_NoLetters, c_NoLetter, c_NoFeed, c_NoMany, c_NoTimes, c_NoKeeper, c_NoSum, c_NoPast, c_NoTally, c_NoFact, c_Barred, c_NoWeights, c_NoPaper, c_NoCount, c_TooMany, c_NoSize, c_NoNumber, c_NoRank, c_NoTruth, c_NoTick, c_NoAsking, c_NoDeed, c_NoName, c_Broken, c_NoLog, c_NoText] 23 = true)
    (yl_Broken : PySem.W.kitOne K (.ref c_Broken) (.ref c_LeftError) = some true)
    (yk_NoLog : kitRow K c_NoLog [c_NoLetters, c_NoLetter, c_NoFeed, c_NoMany, c_NoTimes, c_NoKeeper, c_NoSum, c_NoPast, c_NoTally, c_NoFact, c_Barred, c_NoWeights, c_NoPaper, c_NoCount, c_TooMany, c_NoSize, c_NoNumber, c_NoRank, c_NoTruth, c_NoTick, c_NoAsking, c_NoDeed, c_NoName, c_Broken, c_NoLog, c_NoText] 24 = true)
    (yl_NoLog : PySem.W.kitOne K (.ref c_NoLog) (.ref c_LeftError) = some true)
    (yk_NoText : kitRow K c_NoText [c_NoLetters, c_NoLetter, c_NoFeed, c_NoMany, c_NoTimes, c_NoKeeper, c_NoSum, c_NoPast, c_NoTally, c_NoFact, c_Barred, c_NoWeights, c_NoPaper, c_NoCount, c_TooMany, c_NoSize, c_NoNumber, c_NoRank, c_NoTruth, c_NoTick, c_NoAsking, c_NoDeed, c_NoName, c_Broken, c_NoLog, c_NoText] 25 = true)
    (yl_NoText : PySem.W.kitOne K (.ref c_NoText) (.ref c_LeftError) = some true) :
    ∃ fd : FuncData, (∀ (s : Shared) (v : Value), BindsTo s fd ⟨[v], []⟩ [("_law_script", v)]) ∧ ∀ base : Heap, K.In base → base.Ns mainGlobals mg → FnG l.prog w K mg base 4 fa fd ["_law_script"] (sp_law K) := by
  have e := hfa.symm.trans (PySem.W.mg_of X G a_law)
  cases e
  have F_NoLetter___init__ := fun_mk (st := s_NoLetter___init__) l_NoLetter___init__ c_NoLetter___init__ k_NoLetter___init__
  have F_NoFeed___init__ := fun_mk (st := s_NoFeed___init__) l_NoFeed___init__ c_NoFeed___init__ k_NoFeed___init__
  have F_NoPast___init__ := fun_mk (st := s_NoPast___init__) l_NoPast___init__ c_NoPast___init__ k_NoPast___init__
  have F_NoFact___init__ := fun_mk (st := s_NoFact___init__) l_NoFact___init__ c_NoFact___init__ k_NoFact___init__
  have F_Barred___init__ := fun_mk (st := s_Barred___init__) l_Barred___init__ c_Barred___init__ k_Barred___init__
  have F_TooMany___init__ := fun_mk (st := s_TooMany___init__) l_TooMany___init__ c_TooMany___init__ k_TooMany___init__
  have F_NoTick___init__ := fun_mk (st := s_NoTick___init__) l_NoTick___init__ c_NoTick___init__ k_NoTick___init__
  have F_NoName___init__ := fun_mk (st := s_NoName___init__) l_NoName___init__ c_NoName___init__ k_NoName___init__
  have F_Broken___init__ := fun_mk (st := s_Broken___init__) l_Broken___init__ c_Broken___init__ k_Broken___init__
  have F_NoLog___init__ := fun_mk (st := s_NoLog___init__) l_NoLog___init__ c_NoLog___init__ k_NoLog___init__
  have F_NoText___init__ := fun_mk (st := s_NoText___init__) l_NoText___init__ c_NoText___init__ k_NoText___init__
  have F__law_begun := fun_mk (st := s__law_begun) l__law_begun c__law_begun k__law_begun
  have F__law_draw := fun_mk (st := s__law_draw) l__law_draw c__law_draw k__law_draw
  have F__law_pick := fun_mk (st := s__law_pick) l__law_pick c__law_pick k__law_pick
  have F__law_kinds := fun_mk (st := s__law_kinds) l__law_kinds c__law_kinds k__law_kinds
  have F__law_plain := fun_mk (st := s__law_plain) l__law_plain c__law_plain k__law_plain
  have F__law_fielded := fun_mk (st := s__law_fielded) l__law_fielded c__law_fielded k__law_fielded
  have F_law := fun_mk (st := s_law) l_law c_law k_law
  have re_NoAsking : BX.ErrC K (cErr K "NoAsking") := by
    rw [cErr_of ac_NoAsking]
    exact ⟨xk_NoAsking, xq_NoAsking, xs_NoAsking, xt_NoAsking, BX.exm_self xs_NoAsking xi_NoAsking xt_NoAsking xu_NoAsking, ⟨xg_NoAsking, xh_NoAsking, xs_NoAsking, xd_NoAsking, xa_NoAsking, xn_NoAsking, xw_NoAsking, xm_NoAsking⟩, BX.kit_ve (by decide +kernel) xv_NoAsking⟩
  have re_NoCount : BX.ErrC K (cErr K "NoCount") := by
    rw [cErr_of ac_NoCount]
    exact ⟨xk_NoCount, xq_NoCount, xs_NoCount, xt_NoCount, BX.exm_self xs_NoCount xi_NoCount xt_NoCount xu_NoCount, ⟨xg_NoCount, xh_NoCount, xs_NoCount, xd_NoCount, xa_NoCount, xn_NoCount, xw_NoCount, xm_NoCount⟩, BX.kit_ve (by decide +kernel) xv_NoCount⟩
  have re_NoDeed : BX.ErrC K (cErr K "NoDeed") := by
    rw [cErr_of ac_NoDeed]
    exact ⟨xk_NoDeed, xq_NoDeed, xs_NoDeed, xt_NoDeed, BX.exm_self xs_NoDeed xi_NoDeed xt_NoDeed xu_NoDeed, ⟨xg_NoDeed, xh_NoDeed, xs_NoDeed, xd_NoDeed, xa_NoDeed, xn_NoDeed, xw_NoDeed, xm_NoDeed⟩, BX.kit_ve (by decide +kernel) xv_NoDeed⟩
  have re_NoKeeper : BX.ErrC K (cErr K "NoKeeper") := by
    rw [cErr_of ac_NoKeeper]
    exact ⟨xk_NoKeeper, xq_NoKeeper, xs_NoKeeper, xt_NoKeeper, BX.exm_self xs_NoKeeper xi_NoKeeper xt_NoKeeper xu_NoKeeper, ⟨xg_NoKeeper, xh_NoKeeper, xs_NoKeeper, xd_NoKeeper, xa_NoKeeper, xn_NoKeeper, xw_NoKeeper, xm_NoKeeper⟩, BX.kit_ve (by decide +kernel) xv_NoKeeper⟩
  have re_NoLetters : BX.ErrC K (cErr K "NoLetters") := by
    rw [cErr_of ac_NoLetters]
    exact ⟨xk_NoLetters, xq_NoLetters, xs_NoLetters, xt_NoLetters, BX.exm_self xs_NoLetters xi_NoLetters xt_NoLetters xu_NoLetters, ⟨xg_NoLetters, xh_NoLetters, xs_NoLetters, xd_NoLetters, xa_NoLetters, xn_NoLetters, xw_NoLetters, xm_NoLetters⟩, BX.kit_ve (by decide +kernel) xv_NoLetters⟩
  have re_NoMany : BX.ErrC K (cErr K "NoMany") := by
    rw [cErr_of ac_NoMany]
    exact ⟨xk_NoMany, xq_NoMany, xs_NoMany, xt_NoMany, BX.exm_self xs_NoMany xi_NoMany xt_NoMany xu_NoMany, ⟨xg_NoMany, xh_NoMany, xs_NoMany, xd_NoMany, xa_NoMany, xn_NoMany, xw_NoMany, xm_NoMany⟩, BX.kit_ve (by decide +kernel) xv_NoMany⟩
  have re_NoNumber : BX.ErrC K (cErr K "NoNumber") := by
    rw [cErr_of ac_NoNumber]
    exact ⟨xk_NoNumber, xq_NoNumber, xs_NoNumber, xt_NoNumber, BX.exm_self xs_NoNumber xi_NoNumber xt_NoNumber xu_NoNumber, ⟨xg_NoNumber, xh_NoNumber, xs_NoNumber, xd_NoNumber, xa_NoNumber, xn_NoNumber, xw_NoNumber, xm_NoNumber⟩, BX.kit_ve (by decide +kernel) xv_NoNumber⟩
  have re_NoPaper : BX.ErrC K (cErr K "NoPaper") := by
    rw [cErr_of ac_NoPaper]
    exact ⟨xk_NoPaper, xq_NoPaper, xs_NoPaper, xt_NoPaper, BX.exm_self xs_NoPaper xi_NoPaper xt_NoPaper xu_NoPaper, ⟨xg_NoPaper, xh_NoPaper, xs_NoPaper, xd_NoPaper, xa_NoPaper, xn_NoPaper, xw_NoPaper, xm_NoPaper⟩, BX.kit_ve (by decide +kernel) xv_NoPaper⟩
  have re_NoRank : BX.ErrC K (cErr K "NoRank") := by
    rw [cErr_of ac_NoRank]
    exact ⟨xk_NoRank, xq_NoRank, xs_NoRank, xt_NoRank, BX.exm_self xs_NoRank xi_NoRank xt_NoRank xu_NoRank, ⟨xg_NoRank, xh_NoRank, xs_NoRank, xd_NoRank, xa_NoRank, xn_NoRank, xw_NoRank, xm_NoRank⟩, BX.kit_ve (by decide +kernel) xv_NoRank⟩
  have re_NoSize : BX.ErrC K (cErr K "NoSize") := by
    rw [cErr_of ac_NoSize]
    exact ⟨xk_NoSize, xq_NoSize, xs_NoSize, xt_NoSize, BX.exm_self xs_NoSize xi_NoSize xt_NoSize xu_NoSize, ⟨xg_NoSize, xh_NoSize, xs_NoSize, xd_NoSize, xa_NoSize, xn_NoSize, xw_NoSize, xm_NoSize⟩, BX.kit_ve (by decide +kernel) xv_NoSize⟩
  have re_NoSum : BX.ErrC K (cErr K "NoSum") := by
    rw [cErr_of ac_NoSum]
    exact ⟨xk_NoSum, xq_NoSum, xs_NoSum, xt_NoSum, BX.exm_self xs_NoSum xi_NoSum xt_NoSum xu_NoSum, ⟨xg_NoSum, xh_NoSum, xs_NoSum, xd_NoSum, xa_NoSum, xn_NoSum, xw_NoSum, xm_NoSum⟩, BX.kit_ve (by decide +kernel) xv_NoSum⟩
  have re_NoTally : BX.ErrC K (cErr K "NoTally") := by
    rw [cErr_of ac_NoTally]
    exact ⟨xk_NoTally, xq_NoTally, xs_NoTally, xt_NoTally, BX.exm_self xs_NoTally xi_NoTally xt_NoTally xu_NoTally, ⟨xg_NoTally, xh_NoTally, xs_NoTally, xd_NoTally, xa_NoTally, xn_NoTally, xw_NoTally, xm_NoTally⟩, BX.kit_ve (by decide +kernel) xv_NoTally⟩
  have re_NoTimes : BX.ErrC K (cErr K "NoTimes") := by
    rw [cErr_of ac_NoTimes]
    exact ⟨xk_NoTimes, xq_NoTimes, xs_NoTimes, xt_NoTimes, BX.exm_self xs_NoTimes xi_NoTimes xt_NoTimes xu_NoTimes, ⟨xg_NoTimes, xh_NoTimes, xs_NoTimes, xd_NoTimes, xa_NoTimes, xn_NoTimes, xw_NoTimes, xm_NoTimes⟩, BX.kit_ve (by decide +kernel) xv_NoTimes⟩
  have re_NoTruth : BX.ErrC K (cErr K "NoTruth") := by
    rw [cErr_of ac_NoTruth]
    exact ⟨xk_NoTruth, xq_NoTruth, xs_NoTruth, xt_NoTruth, BX.exm_self xs_NoTruth xi_NoTruth xt_NoTruth xu_NoTruth, ⟨xg_NoTruth, xh_NoTruth, xs_NoTruth, xd_NoTruth, xa_NoTruth, xn_NoTruth, xw_NoTruth, xm_NoTruth⟩, BX.kit_ve (by decide +kernel) xv_NoTruth⟩
  have re_NoWeights : BX.ErrC K (cErr K "NoWeights") := by
    rw [cErr_of ac_NoWeights]
    exact ⟨xk_NoWeights, xq_NoWeights, xs_NoWeights, xt_NoWeights, BX.exm_self xs_NoWeights xi_NoWeights xt_NoWeights xu_NoWeights, ⟨xg_NoWeights, xh_NoWeights, xs_NoWeights, xd_NoWeights, xa_NoWeights, xn_NoWeights, xw_NoWeights, xm_NoWeights⟩, BX.kit_ve (by decide +kernel) xv_NoWeights⟩
  have tb : names26.map (cErr K) = [c_NoLetters, c_NoLetter, c_NoFeed, c_NoMany, c_NoTimes, c_NoKeeper, c_NoSum, c_NoPast, c_NoTally, c_NoFact, c_Barred, c_NoWeights, c_NoPaper, c_NoCount, c_TooMany, c_NoSize, c_NoNumber, c_NoRank, c_NoTruth, c_NoTick, c_NoAsking, c_NoDeed, c_NoName, c_Broken, c_NoLog, c_NoText] := by
    show [cErr K "NoLetters", cErr K "NoLetter", cErr K "NoFeed", cErr K "NoMany", cErr K "NoTimes", cErr K "NoKeeper", cErr K "NoSum", cErr K "NoPast", cErr K "NoTally", cErr K "NoFact", cErr K "Barred", cErr K "NoWeights", cErr K "NoPaper", cErr K "NoCount", cErr K "TooMany", cErr K "NoSize", cErr K "NoNumber", cErr K "NoRank", cErr K "NoTruth", cErr K "NoTick", cErr K "NoAsking", cErr K "NoDeed", cErr K "NoName", cErr K "Broken", cErr K "NoLog", cErr K "NoText"] = _
    rw [cErr_of ac_NoLetters, cErr_of ac_NoLetter, cErr_of ac_NoFeed, cErr_of ac_NoMany, cErr_of ac_NoTimes, cErr_of ac_NoKeeper, cErr_of ac_NoSum, cErr_of ac_NoPast, cErr_of ac_NoTally, cErr_of ac_NoFact, cErr_of ac_Barred, cErr_of ac_NoWeights, cErr_of ac_NoPaper, cErr_of ac_NoCount, cErr_of ac_TooMany, cErr_of ac_NoSize, cErr_of ac_NoNumber, cErr_of ac_NoRank, cErr_of ac_NoTruth, cErr_of ac_NoTick, cErr_of ac_NoAsking, cErr_of ac_NoDeed, cErr_of ac_NoName, cErr_of ac_Broken, cErr_of ac_NoLog, cErr_of ac_NoText]
  have rf_NoLetters : Refd K "NoLetters" := ⟨by
    rw [cErr_of ac_NoLetters]
    exact ⟨xg_NoLetters, xh_NoLetters, xs_NoLetters, xd_NoLetters, xa_NoLetters, xn_NoLetters, xw_NoLetters, xm_NoLetters⟩, by rw [cErr_of ac_NoLetters]; exact BX.kit_ve (by decide +kernel) xv_NoLetters, by rw [cErr_of ac_NoLetters, cErr_of ac_LeftError]; exact yl_NoLetters, kitRow_ks (by decide +kernel) (i := 0) rfl (by rw [tb, cErr_of ac_NoLetters]; exact yk_NoLetters)⟩
  have rf_NoLetter : Refd K "NoLetter" := ⟨by
    rw [cErr_of ac_NoLetter]
    exact ⟨xg_NoLetter, xh_NoLetter, xs_NoLetter, xd_NoLetter, xa_NoLetter, xn_NoLetter, xw_NoLetter, xm_NoLetter⟩, by rw [cErr_of ac_NoLetter]; exact BX.kit_ve (by decide +kernel) xv_NoLetter, by rw [cErr_of ac_NoLetter, cErr_of ac_LeftError]; exact yl_NoLetter, kitRow_ks (by decide +kernel) (i := 1) rfl (by rw [tb, cErr_of ac_NoLetter]; exact yk_NoLetter)⟩
  have rf_NoFeed : Refd K "NoFeed" := ⟨by
    rw [cErr_of ac_NoFeed]
    exact ⟨xg_NoFeed, xh_NoFeed, xs_NoFeed, xd_NoFeed, xa_NoFeed, xn_NoFeed, xw_NoFeed, xm_NoFeed⟩, by rw [cErr_of ac_NoFeed]; exact BX.kit_ve (by decide +kernel) xv_NoFeed, by rw [cErr_of ac_NoFeed, cErr_of ac_LeftError]; exact yl_NoFeed, kitRow_ks (by decide +kernel) (i := 2) rfl (by rw [tb, cErr_of ac_NoFeed]; exact yk_NoFeed)⟩
  have rf_NoMany : Refd K "NoMany" := ⟨by
    rw [cErr_of ac_NoMany]
    exact ⟨xg_NoMany, xh_NoMany, xs_NoMany, xd_NoMany, xa_NoMany, xn_NoMany, xw_NoMany, xm_NoMany⟩, by rw [cErr_of ac_NoMany]; exact BX.kit_ve (by decide +kernel) xv_NoMany, by rw [cErr_of ac_NoMany, cErr_of ac_LeftError]; exact yl_NoMany, kitRow_ks (by decide +kernel) (i := 3) rfl (by rw [tb, cErr_of ac_NoMany]; exact yk_NoMany)⟩
  have rf_NoTimes : Refd K "NoTimes" := ⟨by
    rw [cErr_of ac_NoTimes]
    exact ⟨xg_NoTimes, xh_NoTimes, xs_NoTimes, xd_NoTimes, xa_NoTimes, xn_NoTimes, xw_NoTimes, xm_NoTimes⟩, by rw [cErr_of ac_NoTimes]; exact BX.kit_ve (by decide +kernel) xv_NoTimes, by rw [cErr_of ac_NoTimes, cErr_of ac_LeftError]; exact yl_NoTimes, kitRow_ks (by decide +kernel) (i := 4) rfl (by rw [tb, cErr_of ac_NoTimes]; exact yk_NoTimes)⟩
  have rf_NoKeeper : Refd K "NoKeeper" := ⟨by
    rw [cErr_of ac_NoKeeper]
    exact ⟨xg_NoKeeper, xh_NoKeeper, xs_NoKeeper, xd_NoKeeper, xa_NoKeeper, xn_NoKeeper, xw_NoKeeper, xm_NoKeeper⟩, by rw [cErr_of ac_NoKeeper]; exact BX.kit_ve (by decide +kernel) xv_NoKeeper, by rw [cErr_of ac_NoKeeper, cErr_of ac_LeftError]; exact yl_NoKeeper, kitRow_ks (by decide +kernel) (i := 5) rfl (by rw [tb, cErr_of ac_NoKeeper]; exact yk_NoKeeper)⟩
  have rf_NoSum : Refd K "NoSum" := ⟨by
    rw [cErr_of ac_NoSum]
    exact ⟨xg_NoSum, xh_NoSum, xs_NoSum, xd_NoSum, xa_NoSum, xn_NoSum, xw_NoSum, xm_NoSum⟩, by rw [cErr_of ac_NoSum]; exact BX.kit_ve (by decide +kernel) xv_NoSum, by rw [cErr_of ac_NoSum, cErr_of ac_LeftError]; exact yl_NoSum, kitRow_ks (by decide +kernel) (i := 6) rfl (by rw [tb, cErr_of ac_NoSum]; exact yk_NoSum)⟩
  have rf_NoPast : Refd K "NoPast" := ⟨by
    rw [cErr_of ac_NoPast]
    exact ⟨xg_NoPast, xh_NoPast, xs_NoPast, xd_NoPast, xa_NoPast, xn_NoPast, xw_NoPast, xm_NoPast⟩, by rw [cErr_of ac_NoPast]; exact BX.kit_ve (by decide +kernel) xv_NoPast, by rw [cErr_of ac_NoPast, cErr_of ac_LeftError]; exact yl_NoPast, kitRow_ks (by decide +kernel) (i := 7) rfl (by rw [tb, cErr_of ac_NoPast]; exact yk_NoPast)⟩
  have rf_NoTally : Refd K "NoTally" := ⟨by
    rw [cErr_of ac_NoTally]
    exact ⟨xg_NoTally, xh_NoTally, xs_NoTally, xd_NoTally, xa_NoTally, xn_NoTally, xw_NoTally, xm_NoTally⟩, by rw [cErr_of ac_NoTally]; exact BX.kit_ve (by decide +kernel) xv_NoTally, by rw [cErr_of ac_NoTally, cErr_of ac_LeftError]; exact yl_NoTally, kitRow_ks (by decide +kernel) (i := 8) rfl (by rw [tb, cErr_of ac_NoTally]; exact yk_NoTally)⟩
  have rf_NoFact : Refd K "NoFact" := ⟨by
    rw [cErr_of ac_NoFact]
    exact ⟨xg_NoFact, xh_NoFact, xs_NoFact, xd_NoFact, xa_NoFact, xn_NoFact, xw_NoFact, xm_NoFact⟩, by rw [cErr_of ac_NoFact]; exact BX.kit_ve (by decide +kernel) xv_NoFact, by rw [cErr_of ac_NoFact, cErr_of ac_LeftError]; exact yl_NoFact, kitRow_ks (by decide +kernel) (i := 9) rfl (by rw [tb, cErr_of ac_NoFact]; exact yk_NoFact)⟩
  have rf_Barred : Refd K "Barred" := ⟨by
    rw [cErr_of ac_Barred]
    exact ⟨xg_Barred, xh_Barred, xs_Barred, xd_Barred, xa_Barred, xn_Barred, xw_Barred, xm_Barred⟩, by rw [cErr_of ac_Barred]; exact BX.kit_ve (by decide +kernel) xv_Barred, by rw [cErr_of ac_Barred, cErr_of ac_LeftError]; exact yl_Barred, kitRow_ks (by decide +kernel) (i := 10) rfl (by rw [tb, cErr_of ac_Barred]; exact yk_Barred)⟩
  have rf_NoWeights : Refd K "NoWeights" := ⟨by
    rw [cErr_of ac_NoWeights]
    exact ⟨xg_NoWeights, xh_NoWeights, xs_NoWeights, xd_NoWeights, xa_NoWeights, xn_NoWeights, xw_NoWeights, xm_NoWeights⟩, by rw [cErr_of ac_NoWeights]; exact BX.kit_ve (by decide +kernel) xv_NoWeights, by rw [cErr_of ac_NoWeights, cErr_of ac_LeftError]; exact yl_NoWeights, kitRow_ks (by decide +kernel) (i := 11) rfl (by rw [tb, cErr_of ac_NoWeights]; exact yk_NoWeights)⟩
  have rf_NoPaper : Refd K "NoPaper" := ⟨by
    rw [cErr_of ac_NoPaper]
    exact ⟨xg_NoPaper, xh_NoPaper, xs_NoPaper, xd_NoPaper, xa_NoPaper, xn_NoPaper, xw_NoPaper, xm_NoPaper⟩, by rw [cErr_of ac_NoPaper]; exact BX.kit_ve (by decide +kernel) xv_NoPaper, by rw [cErr_of ac_NoPaper, cErr_of ac_LeftError]; exact yl_NoPaper, kitRow_ks (by decide +kernel) (i := 12) rfl (by rw [tb, cErr_of ac_NoPaper]; exact yk_NoPaper)⟩
  have rf_NoCount : Refd K "NoCount" := ⟨by
    rw [cErr_of ac_NoCount]
    exact ⟨xg_NoCount, xh_NoCount, xs_NoCount, xd_NoCount, xa_NoCount, xn_NoCount, xw_NoCount, xm_NoCount⟩, by rw [cErr_of ac_NoCount]; exact BX.kit_ve (by decide +kernel) xv_NoCount, by rw [cErr_of ac_NoCount, cErr_of ac_LeftError]; exact yl_NoCount, kitRow_ks (by decide +kernel) (i := 13) rfl (by rw [tb, cErr_of ac_NoCount]; exact yk_NoCount)⟩
  have rf_TooMany : Refd K "TooMany" := ⟨by
    rw [cErr_of ac_TooMany]
    exact ⟨xg_TooMany, xh_TooMany, xs_TooMany, xd_TooMany, xa_TooMany, xn_TooMany, xw_TooMany, xm_TooMany⟩, by rw [cErr_of ac_TooMany]; exact BX.kit_ve (by decide +kernel) xv_TooMany, by rw [cErr_of ac_TooMany, cErr_of ac_LeftError]; exact yl_TooMany, kitRow_ks (by decide +kernel) (i := 14) rfl (by rw [tb, cErr_of ac_TooMany]; exact yk_TooMany)⟩
  have rf_NoSize : Refd K "NoSize" := ⟨by
    rw [cErr_of ac_NoSize]
    exact ⟨xg_NoSize, xh_NoSize, xs_NoSize, xd_NoSize, xa_NoSize, xn_NoSize, xw_NoSize, xm_NoSize⟩, by rw [cErr_of ac_NoSize]; exact BX.kit_ve (by decide +kernel) xv_NoSize, by rw [cErr_of ac_NoSize, cErr_of ac_LeftError]; exact yl_NoSize, kitRow_ks (by decide +kernel) (i := 15) rfl (by rw [tb, cErr_of ac_NoSize]; exact yk_NoSize)⟩
  have rf_NoNumber : Refd K "NoNumber" := ⟨by
    rw [cErr_of ac_NoNumber]
    exact ⟨xg_NoNumber, xh_NoNumber, xs_NoNumber, xd_NoNumber, xa_NoNumber, xn_NoNumber, xw_NoNumber, xm_NoNumber⟩, by rw [cErr_of ac_NoNumber]; exact BX.kit_ve (by decide +kernel) xv_NoNumber, by rw [cErr_of ac_NoNumber, cErr_of ac_LeftError]; exact yl_NoNumber, kitRow_ks (by decide +kernel) (i := 16) rfl (by rw [tb, cErr_of ac_NoNumber]; exact yk_NoNumber)⟩
  have rf_NoRank : Refd K "NoRank" := ⟨by
    rw [cErr_of ac_NoRank]
    exact ⟨xg_NoRank, xh_NoRank, xs_NoRank, xd_NoRank, xa_NoRank, xn_NoRank, xw_NoRank, xm_NoRank⟩, by rw [cErr_of ac_NoRank]; exact BX.kit_ve (by decide +kernel) xv_NoRank, by rw [cErr_of ac_NoRank, cErr_of ac_LeftError]; exact yl_NoRank, kitRow_ks (by decide +kernel) (i := 17) rfl (by rw [tb, cErr_of ac_NoRank]; exact yk_NoRank)⟩
  have rf_NoTruth : Refd K "NoTruth" := ⟨by
    rw [cErr_of ac_NoTruth]
    exact ⟨xg_NoTruth, xh_NoTruth, xs_NoTruth, xd_NoTruth, xa_NoTruth, xn_NoTruth, xw_NoTruth, xm_NoTruth⟩, by rw [cErr_of ac_NoTruth]; exact BX.kit_ve (by decide +kernel) xv_NoTruth, by rw [cErr_of ac_NoTruth, cErr_of ac_LeftError]; exact yl_NoTruth, kitRow_ks (by decide +kernel) (i := 18) rfl (by rw [tb, cErr_of ac_NoTruth]; exact yk_NoTruth)⟩
  have rf_NoTick : Refd K "NoTick" := ⟨by
    rw [cErr_of ac_NoTick]
    exact ⟨xg_NoTick, xh_NoTick, xs_NoTick, xd_NoTick, xa_NoTick, xn_NoTick, xw_NoTick, xm_NoTick⟩, by rw [cErr_of ac_NoTick]; exact BX.kit_ve (by decide +kernel) xv_NoTick, by rw [cErr_of ac_NoTick, cErr_of ac_LeftError]; exact yl_NoTick, kitRow_ks (by decide +kernel) (i := 19) rfl (by rw [tb, cErr_of ac_NoTick]; exact yk_NoTick)⟩
  have rf_NoAsking : Refd K "NoAsking" := ⟨by
    rw [cErr_of ac_NoAsking]
    exact ⟨xg_NoAsking, xh_NoAsking, xs_NoAsking, xd_NoAsking, xa_NoAsking, xn_NoAsking, xw_NoAsking, xm_NoAsking⟩, by rw [cErr_of ac_NoAsking]; exact BX.kit_ve (by decide +kernel) xv_NoAsking, by rw [cErr_of ac_NoAsking, cErr_of ac_LeftError]; exact yl_NoAsking, kitRow_ks (by decide +kernel) (i := 20) rfl (by rw [tb, cErr_of ac_NoAsking]; exact yk_NoAsking)⟩
  have rf_NoDeed : Refd K "NoDeed" := ⟨by
    rw [cErr_of ac_NoDeed]
    exact ⟨xg_NoDeed, xh_NoDeed, xs_NoDeed, xd_NoDeed, xa_NoDeed, xn_NoDeed, xw_NoDeed, xm_NoDeed⟩, by rw [cErr_of ac_NoDeed]; exact BX.kit_ve (by decide +kernel) xv_NoDeed, by rw [cErr_of ac_NoDeed, cErr_of ac_LeftError]; exact yl_NoDeed, kitRow_ks (by decide +kernel) (i := 21) rfl (by rw [tb, cErr_of ac_NoDeed]; exact yk_NoDeed)⟩
  have rf_NoName : Refd K "NoName" := ⟨by
    rw [cErr_of ac_NoName]
    exact ⟨xg_NoName, xh_NoName, xs_NoName, xd_NoName, xa_NoName, xn_NoName, xw_NoName, xm_NoName⟩, by rw [cErr_of ac_NoName]; exact BX.kit_ve (by decide +kernel) xv_NoName, by rw [cErr_of ac_NoName, cErr_of ac_LeftError]; exact yl_NoName, kitRow_ks (by decide +kernel) (i := 22) rfl (by rw [tb, cErr_of ac_NoName]; exact yk_NoName)⟩
  have rf_Broken : Refd K "Broken" := ⟨by
    rw [cErr_of ac_Broken]
    exact ⟨xg_Broken, xh_Broken, xs_Broken, xd_Broken, xa_Broken, xn_Broken, xw_Broken, xm_Broken⟩, by rw [cErr_of ac_Broken]; exact BX.kit_ve (by decide +kernel) xv_Broken, by rw [cErr_of ac_Broken, cErr_of ac_LeftError]; exact yl_Broken, kitRow_ks (by decide +kernel) (i := 23) rfl (by rw [tb, cErr_of ac_Broken]; exact yk_Broken)⟩
  have rf_NoLog : Refd K "NoLog" := ⟨by
    rw [cErr_of ac_NoLog]
    exact ⟨xg_NoLog, xh_NoLog, xs_NoLog, xd_NoLog, xa_NoLog, xn_NoLog, xw_NoLog, xm_NoLog⟩, by rw [cErr_of ac_NoLog]; exact BX.kit_ve (by decide +kernel) xv_NoLog, by rw [cErr_of ac_NoLog, cErr_of ac_LeftError]; exact yl_NoLog, kitRow_ks (by decide +kernel) (i := 24) rfl (by rw [tb, cErr_of ac_NoLog]; exact yk_NoLog)⟩
  have rf_NoText : Refd K "NoText" := ⟨by
    rw [cErr_of ac_NoText]
    exact ⟨xg_NoText, xh_NoText, xs_NoText, xd_NoText, xa_NoText, xn_NoText, xw_NoText, xm_NoText⟩, by rw [cErr_of ac_NoText]; exact BX.kit_ve (by decide +kernel) xv_NoText, by rw [cErr_of ac_NoText, cErr_of ac_LeftError]; exact yl_NoText, kitRow_ks (by decide +kernel) (i := 25) rfl (by rw [tb, cErr_of ac_NoText]; exact yk_NoText)⟩
  have rfa : ∀ n ∈ names26, Refd K n := fun n hn => by
    simp only [names26, List.mem_cons, List.not_mem_nil, or_false] at hn
    rcases hn with rfl | rfl | rfl | rfl | rfl | rfl | rfl | rfl | rfl | rfl | rfl | rfl | rfl | rfl | rfl | rfl | rfl | rfl | rfl | rfl | rfl | rfl | rfl | rfl | rfl | rfl
    · exact rf_NoLetters
    · exact rf_NoLetter
    · exact rf_NoFeed
    · exact rf_NoMany
    · exact rf_NoTimes
    · exact rf_NoKeeper
    · exact rf_NoSum
    · exact rf_NoPast
    · exact rf_NoTally
    · exact rf_NoFact
    · exact rf_Barred
    · exact rf_NoWeights
    · exact rf_NoPaper
    · exact rf_NoCount
    · exact rf_TooMany
    · exact rf_NoSize
    · exact rf_NoNumber
    · exact rf_NoRank
    · exact rf_NoTruth
    · exact rf_NoTick
    · exact rf_NoAsking
    · exact rf_NoDeed
    · exact rf_NoName
    · exact rf_Broken
    · exact rf_NoLog
    · exact rf_NoText
  let T : Tx K mg := {
    m_abs := PySem.W.mg_none_of X G z_abs
    m_len := PySem.W.mg_none_of X G z_len
    m_isinstance := PySem.W.mg_none_of X G z_isinstance
    m_range := PySem.W.mg_none_of X G z_range
    m_repr := PySem.W.mg_none_of X G z_repr
    m_ValueError := PySem.W.mg_none_of X G z_ValueError
    f_NoLetter___init__ := f_NoLetter___init__
    d_NoLetter___init__ := _
    F_NoLetter___init__ := F_NoLetter___init__
    b_NoLetter___init__ := F_NoLetter___init__.binds (ps := ["self", "name"]) fun _ _ _ _ _ _ us hl => match us, hl with | [_, _], _ => rfl
    f_NoFeed___init__ := f_NoFeed___init__
    d_NoFeed___init__ := _
    F_NoFeed___init__ := F_NoFeed___init__
    b_NoFeed___init__ := F_NoFeed___init__.binds (ps := ["self", "at"]) fun _ _ _ _ _ _ us hl => match us, hl with | [_, _], _ => rfl
    f_NoPast___init__ := f_NoPast___init__
    d_NoPast___init__ := _
    F_NoPast___init__ := F_NoPast___init__
    b_NoPast___init__ := F_NoPast___init__.binds (ps := ["self", "at"]) fun _ _ _ _ _ _ us hl => match us, hl with | [_, _], _ => rfl
    f_NoFact___init__ := f_NoFact___init__
    d_NoFact___init__ := _
    F_NoFact___init__ := F_NoFact___init__
    b_NoFact___init__ := F_NoFact___init__.binds (ps := ["self", "at"]) fun _ _ _ _ _ _ us hl => match us, hl with | [_, _], _ => rfl
    f_Barred___init__ := f_Barred___init__
    d_Barred___init__ := _
    F_Barred___init__ := F_Barred___init__
    b_Barred___init__ := F_Barred___init__.binds (ps := ["self", "word", "some"]) fun _ _ _ _ _ _ us hl => match us, hl with | [_, _, _], _ => rfl
    f_TooMany___init__ := f_TooMany___init__
    d_TooMany___init__ := _
    F_TooMany___init__ := F_TooMany___init__
    b_TooMany___init__ := F_TooMany___init__.binds (ps := ["self", "limit"]) fun _ _ _ _ _ _ us hl => match us, hl with | [_, _], _ => rfl
    f_NoTick___init__ := f_NoTick___init__
    d_NoTick___init__ := _
    F_NoTick___init__ := F_NoTick___init__
    b_NoTick___init__ := F_NoTick___init__.binds (ps := ["self", "at"]) fun _ _ _ _ _ _ us hl => match us, hl with | [_, _], _ => rfl
    f_NoName___init__ := f_NoName___init__
    d_NoName___init__ := _
    F_NoName___init__ := F_NoName___init__
    b_NoName___init__ := F_NoName___init__.binds (ps := ["self", "name"]) fun _ _ _ _ _ _ us hl => match us, hl with | [_, _], _ => rfl
    f_Broken___init__ := f_Broken___init__
    d_Broken___init__ := _
    F_Broken___init__ := F_Broken___init__
    b_Broken___init__ := F_Broken___init__.binds (ps := ["self", "at"]) fun _ _ _ _ _ _ us hl => match us, hl with | [_, _], _ => rfl
    f_NoLog___init__ := f_NoLog___init__
    d_NoLog___init__ := _
    F_NoLog___init__ := F_NoLog___init__
    b_NoLog___init__ := F_NoLog___init__.binds (ps := ["self", "at"]) fun _ _ _ _ _ _ us hl => match us, hl with | [_, _], _ => rfl
    f_NoText___init__ := f_NoText___init__
    d_NoText___init__ := _
    F_NoText___init__ := F_NoText___init__
    b_NoText___init__ := F_NoText___init__.binds (ps := ["self", "row"]) fun _ _ _ _ _ _ us hl => match us, hl with | [_, _], _ => rfl
    f__law_begun := f__law_begun
    d__law_begun := _
    F__law_begun := F__law_begun
    b__law_begun := F__law_begun.binds (ps := ["_law_script"]) fun _ _ _ _ _ _ us hl => match us, hl with | [_], _ => rfl
    g__law_begun := PySem.W.mg_of X G a__law_begun
    f__law_draw := f__law_draw
    d__law_draw := _
    F__law_draw := F__law_draw
    b__law_draw := F__law_draw.binds (ps := ["_law_state", "_law_many"]) fun _ _ _ _ _ _ us hl => match us, hl with | [_, _], _ => rfl
    g__law_draw := PySem.W.mg_of X G a__law_draw
    f__law_pick := f__law_pick
    d__law_pick := _
    F__law_pick := F__law_pick
    b__law_pick := F__law_pick.binds (ps := ["_law_state", "_law_some"]) fun _ _ _ _ _ _ us hl => match us, hl with | [_, _], _ => rfl
    g__law_pick := PySem.W.mg_of X G a__law_pick
    f__law_kinds := f__law_kinds
    d__law_kinds := _
    F__law_kinds := F__law_kinds
    b__law_kinds := F__law_kinds.binds (ps := ["_law_e"]) fun _ _ _ _ _ _ us hl => match us, hl with | [_], _ => rfl
    g__law_kinds := PySem.W.mg_of X G a__law_kinds
    f__law_plain := f__law_plain
    d__law_plain := _
    F__law_plain := F__law_plain
    b__law_plain := F__law_plain.binds (ps := ["_law_matter"]) fun _ _ _ _ _ _ us hl => match us, hl with | [_], _ => rfl
    g__law_plain := PySem.W.mg_of X G a__law_plain
    f__law_fielded := f__law_fielded
    d__law_fielded := _
    F__law_fielded := F__law_fielded
    b__law_fielded := F__law_fielded.binds (ps := ["_law_thing", "_law_number", "_law_bar"]) fun _ _ _ _ _ _ us hl => match us, hl with | [_, _, _], _ => rfl
    g__law_fielded := PySem.W.mg_of X G a__law_fielded
    f_law := fa
    d_law := _
    F_law := F_law
    g_Barred := by
      rw [cErr_of ac_Barred]
      exact PySem.W.mg_of X G ac_Barred
    g_Broken := by
      rw [cErr_of ac_Broken]
      exact PySem.W.mg_of X G ac_Broken
    g_LeftError := by
      rw [cErr_of ac_LeftError]
      exact PySem.W.mg_of X G ac_LeftError
    g_NoAsking := by
      rw [cErr_of ac_NoAsking]
      exact PySem.W.mg_of X G ac_NoAsking
    g_NoCount := by
      rw [cErr_of ac_NoCount]
      exact PySem.W.mg_of X G ac_NoCount
    g_NoDeed := by
      rw [cErr_of ac_NoDeed]
      exact PySem.W.mg_of X G ac_NoDeed
    g_NoFact := by
      rw [cErr_of ac_NoFact]
      exact PySem.W.mg_of X G ac_NoFact
    g_NoFeed := by
      rw [cErr_of ac_NoFeed]
      exact PySem.W.mg_of X G ac_NoFeed
    g_NoKeeper := by
      rw [cErr_of ac_NoKeeper]
      exact PySem.W.mg_of X G ac_NoKeeper
    g_NoLetter := by
      rw [cErr_of ac_NoLetter]
      exact PySem.W.mg_of X G ac_NoLetter
    g_NoLetters := by
      rw [cErr_of ac_NoLetters]
      exact PySem.W.mg_of X G ac_NoLetters
    g_NoLog := by
      rw [cErr_of ac_NoLog]
      exact PySem.W.mg_of X G ac_NoLog
    g_NoMany := by
      rw [cErr_of ac_NoMany]
      exact PySem.W.mg_of X G ac_NoMany
    g_NoName := by
      rw [cErr_of ac_NoName]
      exact PySem.W.mg_of X G ac_NoName
    g_NoNumber := by
      rw [cErr_of ac_NoNumber]
      exact PySem.W.mg_of X G ac_NoNumber
    g_NoPaper := by
      rw [cErr_of ac_NoPaper]
      exact PySem.W.mg_of X G ac_NoPaper
    g_NoPast := by
      rw [cErr_of ac_NoPast]
      exact PySem.W.mg_of X G ac_NoPast
    g_NoRank := by
      rw [cErr_of ac_NoRank]
      exact PySem.W.mg_of X G ac_NoRank
    g_NoSize := by
      rw [cErr_of ac_NoSize]
      exact PySem.W.mg_of X G ac_NoSize
    g_NoSum := by
      rw [cErr_of ac_NoSum]
      exact PySem.W.mg_of X G ac_NoSum
    g_NoTally := by
      rw [cErr_of ac_NoTally]
      exact PySem.W.mg_of X G ac_NoTally
    g_NoText := by
      rw [cErr_of ac_NoText]
      exact PySem.W.mg_of X G ac_NoText
    g_NoTick := by
      rw [cErr_of ac_NoTick]
      exact PySem.W.mg_of X G ac_NoTick
    g_NoTimes := by
      rw [cErr_of ac_NoTimes]
      exact PySem.W.mg_of X G ac_NoTimes
    g_NoTruth := by
      rw [cErr_of ac_NoTruth]
      exact PySem.W.mg_of X G ac_NoTruth
    g_NoWeights := by
      rw [cErr_of ac_NoWeights]
      exact PySem.W.mg_of X G ac_NoWeights
    g_TooMany := by
      rw [cErr_of ac_TooMany]
      exact PySem.W.mg_of X G ac_TooMany
    rc_NoAsking := re_NoAsking
    rc_NoCount := re_NoCount
    rc_NoDeed := re_NoDeed
    rc_NoKeeper := re_NoKeeper
    rc_NoLetters := re_NoLetters
    rc_NoMany := re_NoMany
    rc_NoNumber := re_NoNumber
    rc_NoPaper := re_NoPaper
    rc_NoRank := re_NoRank
    rc_NoSize := re_NoSize
    rc_NoSum := re_NoSum
    rc_NoTally := re_NoTally
    rc_NoTimes := re_NoTimes
    rc_NoTruth := re_NoTruth
    rc_NoWeights := re_NoWeights
    ri_Barred := by
      rw [cErr_of ac_Barred]
      exact BE.oex_mk yo_Barred ya_Barred xs_Barred xt_Barred xk_Barred
    ii_Barred := by
      rw [cErr_of ac_Barred]
      exact t_Barred___init__
    ti_Barred := yt_Barred
    xo_Barred_some := by
      rw [cErr_of ac_Barred]
      exact yf_some_Barred
    xo_Barred_word := by
      rw [cErr_of ac_Barred]
      exact yf_word_Barred
    xe_Barred := by
      rw [cErr_of ac_Barred]
      exact PySem.W.exm_ref xs_Barred xd_Barred xt_Barred xu_Barred
    xf_Barred := by
      rw [cErr_of ac_Barred]
      exact xfB_ok yx_Barred
    ri_Broken := by
      rw [cErr_of ac_Broken]
      exact BE.oex_mk yo_Broken ya_Broken xs_Broken xt_Broken xk_Broken
    ii_Broken := by
      rw [cErr_of ac_Broken]
      exact t_Broken___init__
    ti_Broken := yt_Broken
    xo_Broken_at := by
      rw [cErr_of ac_Broken]
      exact yf_at_Broken
    xe_Broken := by
      rw [cErr_of ac_Broken]
      exact PySem.W.exm_ref xs_Broken xd_Broken xt_Broken xu_Broken
    xf_Broken := by
      rw [cErr_of ac_Broken]
      exact xfB_ok yx_Broken
    ri_NoFact := by
      rw [cErr_of ac_NoFact]
      exact BE.oex_mk yo_NoFact ya_NoFact xs_NoFact xt_NoFact xk_NoFact
    ii_NoFact := by
      rw [cErr_of ac_NoFact]
      exact t_NoFact___init__
    ti_NoFact := yt_NoFact
    xo_NoFact_at := by
      rw [cErr_of ac_NoFact]
      exact yf_at_NoFact
    xe_NoFact := by
      rw [cErr_of ac_NoFact]
      exact PySem.W.exm_ref xs_NoFact xd_NoFact xt_NoFact xu_NoFact
    xf_NoFact := by
      rw [cErr_of ac_NoFact]
      exact xfB_ok yx_NoFact
    ri_NoFeed := by
      rw [cErr_of ac_NoFeed]
      exact BE.oex_mk yo_NoFeed ya_NoFeed xs_NoFeed xt_NoFeed xk_NoFeed
    ii_NoFeed := by
      rw [cErr_of ac_NoFeed]
      exact t_NoFeed___init__
    ti_NoFeed := yt_NoFeed
    xo_NoFeed_at := by
      rw [cErr_of ac_NoFeed]
      exact yf_at_NoFeed
    xe_NoFeed := by
      rw [cErr_of ac_NoFeed]
      exact PySem.W.exm_ref xs_NoFeed xd_NoFeed xt_NoFeed xu_NoFeed
    xf_NoFeed := by
      rw [cErr_of ac_NoFeed]
      exact xfB_ok yx_NoFeed
    ri_NoLetter := by
      rw [cErr_of ac_NoLetter]
      exact BE.oex_mk yo_NoLetter ya_NoLetter xs_NoLetter xt_NoLetter xk_NoLetter
    ii_NoLetter := by
      rw [cErr_of ac_NoLetter]
      exact t_NoLetter___init__
    ti_NoLetter := yt_NoLetter
    xo_NoLetter_name := by
      rw [cErr_of ac_NoLetter]
      exact yf_name_NoLetter
    xe_NoLetter := by
      rw [cErr_of ac_NoLetter]
      exact PySem.W.exm_ref xs_NoLetter xd_NoLetter xt_NoLetter xu_NoLetter
    xf_NoLetter := by
      rw [cErr_of ac_NoLetter]
      exact xfB_ok yx_NoLetter
    ri_NoLog := by
      rw [cErr_of ac_NoLog]
      exact BE.oex_mk yo_NoLog ya_NoLog xs_NoLog xt_NoLog xk_NoLog
    ii_NoLog := by
      rw [cErr_of ac_NoLog]
      exact t_NoLog___init__
    ti_NoLog := yt_NoLog
    xo_NoLog_at := by
      rw [cErr_of ac_NoLog]
      exact yf_at_NoLog
    xe_NoLog := by
      rw [cErr_of ac_NoLog]
      exact PySem.W.exm_ref xs_NoLog xd_NoLog xt_NoLog xu_NoLog
    xf_NoLog := by
      rw [cErr_of ac_NoLog]
      exact xfB_ok yx_NoLog
    ri_NoName := by
      rw [cErr_of ac_NoName]
      exact BE.oex_mk yo_NoName ya_NoName xs_NoName xt_NoName xk_NoName
    ii_NoName := by
      rw [cErr_of ac_NoName]
      exact t_NoName___init__
    ti_NoName := yt_NoName
    xo_NoName_name := by
      rw [cErr_of ac_NoName]
      exact yf_name_NoName
    xe_NoName := by
      rw [cErr_of ac_NoName]
      exact PySem.W.exm_ref xs_NoName xd_NoName xt_NoName xu_NoName
    xf_NoName := by
      rw [cErr_of ac_NoName]
      exact xfB_ok yx_NoName
    ri_NoPast := by
      rw [cErr_of ac_NoPast]
      exact BE.oex_mk yo_NoPast ya_NoPast xs_NoPast xt_NoPast xk_NoPast
    ii_NoPast := by
      rw [cErr_of ac_NoPast]
      exact t_NoPast___init__
    ti_NoPast := yt_NoPast
    xo_NoPast_at := by
      rw [cErr_of ac_NoPast]
      exact yf_at_NoPast
    xe_NoPast := by
      rw [cErr_of ac_NoPast]
      exact PySem.W.exm_ref xs_NoPast xd_NoPast xt_NoPast xu_NoPast
    xf_NoPast := by
      rw [cErr_of ac_NoPast]
      exact xfB_ok yx_NoPast
    ri_NoText := by
      rw [cErr_of ac_NoText]
      exact BE.oex_mk yo_NoText ya_NoText xs_NoText xt_NoText xk_NoText
    ii_NoText := by
      rw [cErr_of ac_NoText]
      exact t_NoText___init__
    ti_NoText := yt_NoText
    xo_NoText_row := by
      rw [cErr_of ac_NoText]
      exact yf_row_NoText
    xe_NoText := by
      rw [cErr_of ac_NoText]
      exact PySem.W.exm_ref xs_NoText xd_NoText xt_NoText xu_NoText
    xf_NoText := by
      rw [cErr_of ac_NoText]
      exact xfB_ok yx_NoText
    ri_NoTick := by
      rw [cErr_of ac_NoTick]
      exact BE.oex_mk yo_NoTick ya_NoTick xs_NoTick xt_NoTick xk_NoTick
    ii_NoTick := by
      rw [cErr_of ac_NoTick]
      exact t_NoTick___init__
    ti_NoTick := yt_NoTick
    xo_NoTick_at := by
      rw [cErr_of ac_NoTick]
      exact yf_at_NoTick
    xe_NoTick := by
      rw [cErr_of ac_NoTick]
      exact PySem.W.exm_ref xs_NoTick xd_NoTick xt_NoTick xu_NoTick
    xf_NoTick := by
      rw [cErr_of ac_NoTick]
      exact xfB_ok yx_NoTick
    ri_TooMany := by
      rw [cErr_of ac_TooMany]
      exact BE.oex_mk yo_TooMany ya_TooMany xs_TooMany xt_TooMany xk_TooMany
    ii_TooMany := by
      rw [cErr_of ac_TooMany]
      exact t_TooMany___init__
    ti_TooMany := yt_TooMany
    xo_TooMany_limit := by
      rw [cErr_of ac_TooMany]
      exact yf_limit_TooMany
    xe_TooMany := by
      rw [cErr_of ac_TooMany]
      exact PySem.W.exm_ref xs_TooMany xd_TooMany xt_TooMany xu_TooMany
    xf_TooMany := by
      rw [cErr_of ac_TooMany]
      exact xfB_ok yx_TooMany
    rf_all := rfa }
  exact ⟨T.d_law, fun s v => .of_eq rfl, fun base _ _ => ok_law T⟩
theorem walk {l : PySem.W.OpenLaw} {q : Program} {loose : List Str} {XP : (Str → Option Value) → Heap → Prop} {YP : World → Heap → Prop} {d : DefRec} {K : Params → PySem.W.Frag} (hn : l.most = some 63) (hdf : d.params.defaults = [])
    (hY : ∀ (w : World) (h : Heap), YP w h → (K w.params).In h)
    (F : ∀ (w : World) (mg : Str → Option Value) (fa : Addr) (h : Heap), (K w.params).In h → h.Ns mainGlobals mg → mg d.name = some (.ref fa) →
      ∃ fd : FuncData, (∀ (s : Shared) (u : Value), BindsTo s fd ⟨[u], []⟩ [("_law_script", u)]) ∧ ∀ base : Heap, (K w.params).In base → base.Ns mainGlobals mg → FnG l.prog w (K w.params) mg base 4 fa fd ["_law_script"] (sp_law (K w.params))) :
    PySem.W.WalkO q loose XP YP l.row.toRowW d [] (fun f vs => PySem.call f vs) :=
  walkG (n := 63) (k := 4) (x := "_law_script") (sp := fun w => sp_law (K w.params)) hn (by decide) hdf ⟨rfl, by decide, by decide⟩ hY F (fun _ _ a ns hl _ hS => law_in a ns hl hS)

end B
open PySem PySem.W PyProof.Rows
set_option maxRecDepth 100000 in
set_option maxHeartbeats 0 in
theorem PySem.Challenge.cw_bygone_k00_refusals_made_holds : PySem.Challenge.rw_bygone_k00_refusals_made.Holds := by
  w_on; o_law; k_head; (case hw => w_witness2)
  k_fill
  refine B.walk (l := PySem.Challenge.rw_bygone_k00_refusals_made) rfl rfl (fun w h Y => PySem.W.kIn_of Y) ?F
  case F =>
    intro w mg fa h KX G hmg
    refine' B.all_mk KX G hmg ?z_abs ?z_len ?z_isinstance ?z_range ?z_repr ?z_ValueError ?l_NoLetter___init__ ?c_NoLetter___init__ ?k_NoLetter___init__ ?l_NoFeed___init__ ?c_NoFeed___init__ ?k_NoFeed___init__ ?l_NoPast___init__ ?c_NoPast___init__ ?k_NoPast___init__ ?l_NoFact___init__ ?c_NoFact___init__ ?k_NoFact___init__ ?l_Barred___init__ ?c_Barred___init__ ?k_Barred___init__ ?l_TooMany___init__ ?c_TooMany___init__ ?k_TooMany___init__ ?l_NoTick___init__ ?c_NoTick___init__ ?k_NoTick___init__ ?l_NoName___init__ ?c_NoName___init__ ?k_NoName___init__ ?l_Broken___init__ ?c_Broken___init__ ?k_Broken___init__ ?l_NoLog___init__ ?c_NoLog___init__ ?k_NoLog___init__ ?l_NoText___init__ ?c_NoText___init__ ?k_NoText___init__ ?a__law_begun ?l__law_begun ?c__law_begun ?k__law_begun ?a__law_draw ?l__law_draw ?c__law_draw ?k__law_draw ?a__law_pick ?l__law_pick ?c__law_pick ?k__law_pick ?a__law_kinds ?l__law_kinds ?c__law_kinds ?k__law_kinds ?a__law_plain ?l__law_plain ?c__law_plain ?k__law_plain ?a__law_fielded ?l__law_fielded ?c__law_fielded ?k__law_fielded ?a_law ?l_law ?c_law ?k_law ?ac_Barred ?ac_Broken ?ac_LeftError ?ac_NoAsking ?ac_NoCount ?ac_NoDeed ?ac_NoFact ?ac_NoFeed ?ac_NoKeeper ?ac_NoLetter ?ac_NoLetters ?ac_NoLog ?ac_NoMany ?ac_NoName ?ac_NoNumber ?ac_NoPaper ?ac_NoPast ?ac_NoRank ?ac_NoSize ?ac_NoSum ?ac_NoTally ?ac_NoText ?ac_NoTick ?ac_NoTimes ?ac_NoTruth ?ac_NoWeights ?ac_TooMany ?xk_NoAsking ?xq_NoAsking ?xs_NoAsking ?xt_NoAsking ?xi_NoAsking ?xu_NoAsking ?xg_NoAsking ?xh_NoAsking ?xd_NoAsking ?xa_NoAsking ?xn_NoAsking ?xw_NoAsking ?xm_NoAsking ?xv_NoAsking ?xk_NoCount ?xq_NoCount ?xs_NoCount ?xt_NoCount ?xi_NoCount ?xu_NoCount ?xg_NoCount ?xh_NoCount ?xd_NoCount ?xa_NoCount ?xn_NoCount ?xw_NoCount ?xm_NoCount ?xv_NoCount ?xk_NoDeed ?xq_NoDeed ?xs_NoDeed ?xt_NoDeed ?xi_NoDeed ?xu_NoDeed ?xg_NoDeed ?xh_NoDeed ?xd_NoDeed ?xa_NoDeed ?xn_NoDeed ?xw_NoDeed ?xm_NoDeed ?xv_NoDeed ?xk_NoKeeper ?xq_NoKeeper ?xs_NoKeeper ?xt_NoKeeper ?xi_NoKeeper ?xu_NoKeeper ?xg_NoKeeper ?xh_NoKeeper ?xd_NoKeeper ?xa_NoKeeper ?xn_NoKeeper ?xw_NoKeeper ?xm_NoKeeper ?xv_NoKeeper ?xk_NoLetters ?xq_NoLetters ?xs_NoLetters ?xt_NoLetters ?xi_NoLetters ?xu_NoLetters ?xg_NoLetters ?xh_NoLetters ?xd_NoLetters ?xa_NoLetters ?xn_NoLetters ?xw_NoLetters ?xm_NoLetters ?xv_NoLetters ?xk_NoMany ?xq_NoMany ?xs_NoMany ?xt_NoMany ?xi_NoMany ?xu_NoMany ?xg_NoMany ?xh_NoMany ?xd_NoMany ?xa_NoMany ?xn_NoMany ?xw_NoMany ?xm_NoMany ?xv_NoMany ?xk_NoNumber ?xq_NoNumber ?xs_NoNumber ?xt_NoNumber ?xi_NoNumber ?xu_NoNumber ?xg_NoNumber ?xh_NoNumber ?xd_NoNumber ?xa_NoNumber ?xn_NoNumber ?xw_NoNumber ?xm_NoNumber ?xv_NoNumber ?xk_NoPaper ?xq_NoPaper ?xs_NoPaper ?xt_NoPaper ?xi_NoPaper ?xu_NoPaper ?xg_NoPaper ?xh_NoPaper ?xd_NoPaper ?xa_NoPaper ?xn_NoPaper ?xw_NoPaper ?xm_NoPaper ?xv_NoPaper ?xk_NoRank ?xq_NoRank ?xs_NoRank ?xt_NoRank ?xi_NoRank ?xu_NoRank ?xg_NoRank ?xh_NoRank ?xd_NoRank ?xa_NoRank ?xn_NoRank ?xw_NoRank ?xm_NoRank ?xv_NoRank ?xk_NoSize ?xq_NoSize ?xs_NoSize ?xt_NoSize ?xi_NoSize ?xu_NoSize ?xg_NoSize ?xh_NoSize ?xd_NoSize ?xa_NoSize ?xn_NoSize ?xw_NoSize ?xm_NoSize ?xv_NoSize ?xk_NoSum ?xq_NoSum ?xs_NoSum ?xt_NoSum ?xi_NoSum ?xu_NoSum ?xg_NoSum ?xh_NoSum ?xd_NoSum ?xa_NoSum ?xn_NoSum ?xw_NoSum ?xm_NoSum ?xv_NoSum ?xk_NoTally ?xq_NoTally ?xs_NoTally ?xt_NoTally ?xi_NoTally ?xu_NoTally ?xg_NoTally ?xh_NoTally ?xd_NoTally ?xa_NoTally ?xn_NoTally ?xw_NoTally ?xm_NoTally ?xv_NoTally ?xk_NoTimes ?xq_NoTimes ?xs_NoTimes ?xt_NoTimes ?xi_NoTimes ?xu_NoTimes ?xg_NoTimes ?xh_NoTimes ?xd_NoTimes ?xa_NoTimes ?xn_NoTimes ?xw_NoTimes ?xm_NoTimes ?xv_NoTimes ?xk_NoTruth ?xq_NoTruth ?xs_NoTruth ?xt_NoTruth ?xi_NoTruth ?xu_NoTruth ?xg_NoTruth ?xh_NoTruth ?xd_NoTruth ?xa_NoTruth ?xn_NoTruth ?xw_NoTruth ?xm_NoTruth ?xv_NoTruth ?xk_NoWeights ?xq_NoWeights ?xs_NoWeights ?xt_NoWeights ?xi_NoWeights ?xu_NoWeights ?xg_NoWeights ?xh_NoWeights ?xd_NoWeights ?xa_NoWeights ?xn_NoWeights ?xw_NoWeights ?xm_NoWeights ?xv_NoWeights ?xk_Barred ?xs_Barred ?xt_Barred ?xg_Barred ?xh_Barred ?xd_Barred ?xa_Barred ?xn_Barred ?xw_Barred ?xm_Barred ?xv_Barred ?yo_Barred ?ya_Barred ?t_Barred___init__ ?yt_Barred ?yf_some_Barred ?yf_word_Barred ?xu_Barred ?yx_Barred ?xk_Broken ?xs_Broken ?xt_Broken ?xg_Broken ?xh_Broken ?xd_Broken ?xa_Broken ?xn_Broken ?xw_Broken ?xm_Broken ?xv_Broken ?yo_Broken ?ya_Broken ?t_Broken___init__ ?yt_Broken ?yf_at_Broken ?xu_Broken ?yx_Broken ?xk_NoFact ?xs_NoFact ?xt_NoFact ?xg_NoFact ?xh_NoFact ?xd_NoFact ?xa_NoFact ?xn_NoFact ?xw_NoFact ?xm_NoFact ?xv_NoFact ?yo_NoFact ?ya_NoFact ?t_NoFact___init__ ?yt_NoFact ?yf_at_NoFact ?xu_NoFact ?yx_NoFact ?xk_NoFeed ?xs_NoFeed ?xt_NoFeed ?xg_NoFeed ?xh_NoFeed ?xd_NoFeed ?xa_NoFeed ?xn_NoFeed ?xw_NoFeed ?xm_NoFeed ?xv_NoFeed ?yo_NoFeed ?ya_NoFeed ?t_NoFeed___init__ ?yt_NoFeed ?yf_at_NoFeed ?xu_NoFeed ?yx_NoFeed ?xk_NoLetter ?xs_NoLetter ?xt_NoLetter ?xg_NoLetter ?xh_NoLetter ?xd_NoLetter ?xa_NoLetter ?xn_NoLetter ?xw_NoLetter ?xm_NoLetter ?xv_NoLetter ?yo_NoLetter ?ya_NoLetter ?t_NoLetter___init__ ?yt_NoLetter ?yf_name_NoLetter ?xu_NoLetter ?yx_NoLetter ?xk_NoLog ?xs_NoLog ?xt_NoLog ?xg_NoLog ?xh_NoLog ?xd_NoLog ?xa_NoLog ?xn_NoLog ?xw_NoLog ?xm_NoLog ?xv_NoLog ?yo_NoLog ?ya_NoLog ?t_NoLog___init__ ?yt_NoLog ?yf_at_NoLog ?xu_NoLog ?yx_NoLog ?xk_NoName ?xs_NoName ?xt_NoName ?xg_NoName ?xh_NoName ?xd_NoName ?xa_NoName ?xn_NoName ?xw_NoName ?xm_NoName ?xv_NoName ?yo_NoName ?ya_NoName ?t_NoName___init__ ?yt_NoName ?yf_name_NoName ?xu_NoName ?yx_NoName ?xk_NoPast ?xs_NoPast ?xt_NoPast ?xg_NoPast ?xh_NoPast ?xd_NoPast ?xa_NoPast ?xn_NoPast ?xw_NoPast ?xm_NoPast ?xv_NoPast ?yo_NoPast ?ya_NoPast ?t_NoPast___init__ ?yt_NoPast ?yf_at_NoPast ?xu_NoPast ?yx_NoPast ?xk_NoText ?xs_NoText ?xt_NoText ?xg_NoText ?xh_NoText ?xd_NoText ?xa_NoText ?xn_NoText ?xw_NoText ?xm_NoText ?xv_NoText ?yo_NoText ?ya_NoText ?t_NoText___init__ ?yt_NoText ?yf_row_NoText ?xu_NoText ?yx_NoText ?xk_NoTick ?xs_NoTick ?xt_NoTick ?xg_NoTick ?xh_NoTick ?xd_NoTick ?xa_NoTick ?xn_NoTick ?xw_NoTick ?xm_NoTick ?xv_NoTick ?yo_NoTick ?ya_NoTick ?t_NoTick___init__ ?yt_NoTick ?yf_at_NoTick ?xu_NoTick ?yx_NoTick ?xk_TooMany ?xs_TooMany ?xt_TooMany ?xg_TooMany ?xh_TooMany ?xd_TooMany ?xa_TooMany ?xn_TooMany ?xw_TooMany ?xm_TooMany ?xv_TooMany ?yo_TooMany ?ya_TooMany ?t_TooMany___init__ ?yt_TooMany ?yf_limit_TooMany ?xu_TooMany ?yx_TooMany ?yk_NoLetters ?yl_NoLetters ?yk_NoLetter ?yl_NoLetter ?yk_NoFeed ?yl_NoFeed ?yk_NoMany ?yl_NoMany ?yk_NoTimes ?yl_NoTimes ?yk_NoKeeper ?yl_NoKeeper ?yk_NoSum ?yl_NoSum ?yk_NoPast ?yl_NoPast ?yk_NoTally ?yl_NoTally ?yk_NoFact ?yl_NoFact ?yk_Barred ?yl_Barred ?yk_NoWeights ?yl_NoWeights ?yk_NoPaper ?yl_NoPaper ?yk_NoCount ?yl_NoCount ?yk_TooMany ?yl_TooMany ?yk_NoSize ?yl_NoSize ?yk_NoNumber ?yl_NoNumber ?yk_NoRank ?yl_NoRank ?yk_NoTruth ?yl_NoTruth ?yk_NoTick ?yl_NoTick ?yk_NoAsking ?yl_NoAsking ?yk_NoDeed ?yl_NoDeed ?yk_NoName ?yl_NoName ?yk_Broken ?yl_Broken ?yk_NoLog ?yl_NoLog ?yk_NoText ?yl_NoText
    (case z_abs => k_is)
    (case z_len => k_is)
    (case z_isinstance => k_is)
    (case z_range => k_is)
    (case z_repr => k_is)
    (case z_ValueError => k_is)
    (case ac_Barred => k_is)
    (case ac_Broken => k_is)
    (case ac_LeftError => k_is)
    (case ac_NoAsking => k_is)
    (case ac_NoCount => k_is)
    (case ac_NoDeed => k_is)
    (case ac_NoFact => k_is)
    (case ac_NoFeed => k_is)
    (case ac_NoKeeper => k_is)
    (case ac_NoLetter => k_is)
    (case ac_NoLetters => k_is)
    (case ac_NoLog => k_is)
    (case ac_NoMany => k_is)
    (case ac_NoName => k_is)
    (case ac_NoNumber => k_is)
    (case ac_NoPaper => k_is)
    (case ac_NoPast => k_is)
    (case ac_NoRank => k_is)
    (case ac_NoSize => k_is)
    (case ac_NoSum => k_is)
    (case ac_NoTally => k_is)
    (case ac_NoText => k_is)
    (case ac_NoTick => k_is)
    (case ac_NoTimes => k_is)
    (case ac_NoTruth => k_is)
    (case ac_NoWeights => k_is)
    (case ac_TooMany => k_is)
    (case t_Barred___init__ => k_is)
    (case t_Broken___init__ => k_is)
    (case t_NoFact___init__ => k_is)
    (case t_NoFeed___init__ => k_is)
    (case t_NoLetter___init__ => k_is)
    (case t_NoLog___init__ => k_is)
    (case t_NoName___init__ => k_is)
    (case t_NoPast___init__ => k_is)
    (case t_NoText___init__ => k_is)
    (case t_NoTick___init__ => k_is)
    (case t_TooMany___init__ => k_is)
    (case a__law_begun => k_is)
    (case a__law_draw => k_is)
    (case a__law_pick => k_is)
    (case a__law_kinds => k_is)
    (case a__law_plain => k_is)
    (case a__law_fielded => k_is)
    (case a_law => k_is)
    (case l_NoLetter___init__ => k_is)
    (case c_NoLetter___init__ => k_is)
    (case k_NoLetter___init__ => k_is)
    (case l_NoFeed___init__ => k_is)
    (case c_NoFeed___init__ => k_is)
    (case k_NoFeed___init__ => k_is)
    (case l_NoPast___init__ => k_is)
    (case c_NoPast___init__ => k_is)
    (case k_NoPast___init__ => k_is)
    (case l_NoFact___init__ => k_is)
    (case c_NoFact___init__ => k_is)
    (case k_NoFact___init__ => k_is)
    (case l_Barred___init__ => k_is)
    (case c_Barred___init__ => k_is)
    (case k_Barred___init__ => k_is)
    (case l_TooMany___init__ => k_is)
    (case c_TooMany___init__ => k_is)
    (case k_TooMany___init__ => k_is)
    (case l_NoTick___init__ => k_is)
    (case c_NoTick___init__ => k_is)
    (case k_NoTick___init__ => k_is)
    (case l_NoName___init__ => k_is)
    (case c_NoName___init__ => k_is)
    (case k_NoName___init__ => k_is)
    (case l_Broken___init__ => k_is)
    (case c_Broken___init__ => k_is)
    (case k_Broken___init__ => k_is)
    (case l_NoLog___init__ => k_is)
    (case c_NoLog___init__ => k_is)
    (case k_NoLog___init__ => k_is)
    (case l_NoText___init__ => k_is)
    (case c_NoText___init__ => k_is)
    (case k_NoText___init__ => k_is)
    (case l__law_begun => k_is)
    (case c__law_begun => k_is)
    (case k__law_begun => k_is)
    (case l__law_draw => k_is)
    (case c__law_draw => k_is)
    (case k__law_draw => k_is)
    (case l__law_pick => k_is)
    (case c__law_pick => k_is)
    (case k__law_pick => k_is)
    (case l__law_kinds => k_is)
    (case c__law_kinds => k_is)
    (case k__law_kinds => k_is)
    (case l__law_plain => k_is)
    (case c__law_plain => k_is)
    (case k__law_plain => k_is)
    (case l__law_fielded => k_is)
    (case c__law_fielded => k_is)
    (case k__law_fielded => k_is)
    (case l_law => k_is)
    (case c_law => k_is)
    (case k_law => k_is)
    (case xk_NoAsking => k_is)
    (case xq_NoAsking => k_exc)
    (case xs_NoAsking => k_is)
    (case xt_NoAsking => k_is)
    (case xi_NoAsking => k_is)
    (case xu_NoAsking => first | rfl | k_is)
    (case xg_NoAsking => k_is)
    (case xh_NoAsking => k_is)
    (case xd_NoAsking => k_is)
    (case xa_NoAsking => k_is)
    (case xn_NoAsking => k_is)
    (case xw_NoAsking => k_is)
    (case xm_NoAsking => k_is)
    (case xv_NoAsking => k_is)
    (case xk_NoCount => k_is)
    (case xq_NoCount => k_exc)
    (case xs_NoCount => k_is)
    (case xt_NoCount => k_is)
    (case xi_NoCount => k_is)
    (case xu_NoCount => first | rfl | k_is)
    (case xg_NoCount => k_is)
    (case xh_NoCount => k_is)
    (case xd_NoCount => k_is)
    (case xa_NoCount => k_is)
    (case xn_NoCount => k_is)
    (case xw_NoCount => k_is)
    (case xm_NoCount => k_is)
    (case xv_NoCount => k_is)
    (case xk_NoDeed => k_is)
    (case xq_NoDeed => k_exc)
    (case xs_NoDeed => k_is)
    (case xt_NoDeed => k_is)
    (case xi_NoDeed => k_is)
    (case xu_NoDeed => first | rfl | k_is)
    (case xg_NoDeed => k_is)
    (case xh_NoDeed => k_is)
    (case xd_NoDeed => k_is)
    (case xa_NoDeed => k_is)
    (case xn_NoDeed => k_is)
    (case xw_NoDeed => k_is)
    (case xm_NoDeed => k_is)
    (case xv_NoDeed => k_is)
    (case xk_NoKeeper => k_is)
    (case xq_NoKeeper => k_exc)
    (case xs_NoKeeper => k_is)
    (case xt_NoKeeper => k_is)
    (case xi_NoKeeper => k_is)
    (case xu_NoKeeper => first | rfl | k_is)
    (case xg_NoKeeper => k_is)
    (case xh_NoKeeper => k_is)
    (case xd_NoKeeper => k_is)
    (case xa_NoKeeper => k_is)
    (case xn_NoKeeper => k_is)
    (case xw_NoKeeper => k_is)
    (case xm_NoKeeper => k_is)
    (case xv_NoKeeper => k_is)
    (case xk_NoLetters => k_is)
    (case xq_NoLetters => k_exc)
    (case xs_NoLetters => k_is)
    (case xt_NoLetters => k_is)
    (case xi_NoLetters => k_is)
    (case xu_NoLetters => first | rfl | k_is)
    (case xg_NoLetters => k_is)
    (case xh_NoLetters => k_is)
    (case xd_NoLetters => k_is)
    (case xa_NoLetters => k_is)
    (case xn_NoLetters => k_is)
    (case xw_NoLetters => k_is)
    (case xm_NoLetters => k_is)
    (case xv_NoLetters => k_is)
    (case xk_NoMany => k_is)
    (case xq_NoMany => k_exc)
    (case xs_NoMany => k_is)
    (case xt_NoMany => k_is)
    (case xi_NoMany => k_is)
    (case xu_NoMany => first | rfl | k_is)
    (case xg_NoMany => k_is)
    (case xh_NoMany => k_is)
    (case xd_NoMany => k_is)
    (case xa_NoMany => k_is)
    (case xn_NoMany => k_is)
    (case xw_NoMany => k_is)
    (case xm_NoMany => k_is)
    (case xv_NoMany => k_is)
    (case xk_NoNumber => k_is)
    (case xq_NoNumber => k_exc)
    (case xs_NoNumber => k_is)
    (case xt_NoNumber => k_is)
    (case xi_NoNumber => k_is)
    (case xu_NoNumber => first | rfl | k_is)
    (case xg_NoNumber => k_is)
    (case xh_NoNumber => k_is)
    (case xd_NoNumber => k_is)
    (case xa_NoNumber => k_is)
    (case xn_NoNumber => k_is)
    (case xw_NoNumber => k_is)
    (case xm_NoNumber => k_is)
    (case xv_NoNumber => k_is)
    (case xk_NoPaper => k_is)
    (case xq_NoPaper => k_exc)
    (case xs_NoPaper => k_is)
    (case xt_NoPaper => k_is)
    (case xi_NoPaper => k_is)
    (case xu_NoPaper => first | rfl | k_is)
    (case xg_NoPaper => k_is)
    (case xh_NoPaper => k_is)
    (case xd_NoPaper => k_is)
    (case xa_NoPaper => k_is)
    (case xn_NoPaper => k_is)
    (case xw_NoPaper => k_is)
    (case xm_NoPaper => k_is)
    (case xv_NoPaper => k_is)
    (case xk_NoRank => k_is)
    (case xq_NoRank => k_exc)
    (case xs_NoRank => k_is)
    (case xt_NoRank => k_is)
    (case xi_NoRank => k_is)
    (case xu_NoRank => first | rfl | k_is)
    (case xg_NoRank => k_is)
    (case xh_NoRank => k_is)
    (case xd_NoRank => k_is)
    (case xa_NoRank => k_is)
    (case xn_NoRank => k_is)
    (case xw_NoRank => k_is)
    (case xm_NoRank => k_is)
    (case xv_NoRank => k_is)
    (case xk_NoSize => k_is)
    (case xq_NoSize => k_exc)
    (case xs_NoSize => k_is)
    (case xt_NoSize => k_is)
    (case xi_NoSize => k_is)
    (case xu_NoSize => first | rfl | k_is)
    (case xg_NoSize => k_is)
    (case xh_NoSize => k_is)
    (case xd_NoSize => k_is)
    (case xa_NoSize => k_is)
    (case xn_NoSize => k_is)
    (case xw_NoSize => k_is)
    (case xm_NoSize => k_is)
    (case xv_NoSize => k_is)
    (case xk_NoSum => k_is)
    (case xq_NoSum => k_exc)
    (case xs_NoSum => k_is)
    (case xt_NoSum => k_is)
    (case xi_NoSum => k_is)
    (case xu_NoSum => first | rfl | k_is)
    (case xg_NoSum => k_is)
    (case xh_NoSum => k_is)
    (case xd_NoSum => k_is)
    (case xa_NoSum => k_is)
    (case xn_NoSum => k_is)
    (case xw_NoSum => k_is)
    (case xm_NoSum => k_is)
    (case xv_NoSum => k_is)
    (case xk_NoTally => k_is)
    (case xq_NoTally => k_exc)
    (case xs_NoTally => k_is)
    (case xt_NoTally => k_is)
    (case xi_NoTally => k_is)
    (case xu_NoTally => first | rfl | k_is)
    (case xg_NoTally => k_is)
    (case xh_NoTally => k_is)
    (case xd_NoTally => k_is)
    (case xa_NoTally => k_is)
    (case xn_NoTally => k_is)
    (case xw_NoTally => k_is)
    (case xm_NoTally => k_is)
    (case xv_NoTally => k_is)
    (case xk_NoTimes => k_is)
    (case xq_NoTimes => k_exc)
    (case xs_NoTimes => k_is)
    (case xt_NoTimes => k_is)
    (case xi_NoTimes => k_is)
    (case xu_NoTimes => first | rfl | k_is)
    (case xg_NoTimes => k_is)
    (case xh_NoTimes => k_is)
    (case xd_NoTimes => k_is)
    (case xa_NoTimes => k_is)
    (case xn_NoTimes => k_is)
    (case xw_NoTimes => k_is)
    (case xm_NoTimes => k_is)
    (case xv_NoTimes => k_is)
    (case xk_NoTruth => k_is)
    (case xq_NoTruth => k_exc)
    (case xs_NoTruth => k_is)
    (case xt_NoTruth => k_is)
    (case xi_NoTruth => k_is)
    (case xu_NoTruth => first | rfl | k_is)
    (case xg_NoTruth => k_is)
    (case xh_NoTruth => k_is)
    (case xd_NoTruth => k_is)
    (case xa_NoTruth => k_is)
    (case xn_NoTruth => k_is)
    (case xw_NoTruth => k_is)
    (case xm_NoTruth => k_is)
    (case xv_NoTruth => k_is)
    (case xk_NoWeights => k_is)
    (case xq_NoWeights => k_exc)
    (case xs_NoWeights => k_is)
    (case xt_NoWeights => k_is)
    (case xi_NoWeights => k_is)
    (case xu_NoWeights => first | rfl | k_is)
    (case xg_NoWeights => k_is)
    (case xh_NoWeights => k_is)
    (case xd_NoWeights => k_is)
    (case xa_NoWeights => k_is)
    (case xn_NoWeights => k_is)
    (case xw_NoWeights => k_is)
    (case xm_NoWeights => k_is)
    (case xv_NoWeights => k_is)
    (case xk_Barred => k_is)
    (case xs_Barred => k_is)
    (case xt_Barred => k_is)
    (case xg_Barred => k_is)
    (case xh_Barred => k_is)
    (case xd_Barred => k_is)
    (case xa_Barred => k_is)
    (case xn_Barred => k_is)
    (case xw_Barred => k_is)
    (case xm_Barred => k_is)
    (case xv_Barred => k_is)
    (case yo_Barred => kernel_rfl)
    (case ya_Barred => k_is)
    (case yt_Barred => k_is)
    (case yf_some_Barred => k_is)
    (case yf_word_Barred => k_is)
    (case xu_Barred => first | rfl | k_is)
    (case yx_Barred => kernel_rfl)
    (case xk_Broken => k_is)
    (case xs_Broken => k_is)
    (case xt_Broken => k_is)
    (case xg_Broken => k_is)
    (case xh_Broken => k_is)
    (case xd_Broken => k_is)
    (case xa_Broken => k_is)
    (case xn_Broken => k_is)
    (case xw_Broken => k_is)
    (case xm_Broken => k_is)
    (case xv_Broken => k_is)
    (case yo_Broken => kernel_rfl)
    (case ya_Broken => k_is)
    (case yt_Broken => k_is)
    (case yf_at_Broken => k_is)
    (case xu_Broken => first | rfl | k_is)
    (case yx_Broken => kernel_rfl)
    (case xk_NoFact => k_is)
    (case xs_NoFact => k_is)
    (case xt_NoFact => k_is)
    (case xg_NoFact => k_is)
    (case xh_NoFact => k_is)
    (case xd_NoFact => k_is)
    (case xa_NoFact => k_is)
    (case xn_NoFact => k_is)
    (case xw_NoFact => k_is)
    (case xm_NoFact => k_is)
    (case xv_NoFact => k_is)
    (case yo_NoFact => kernel_rfl)
    (case ya_NoFact => k_is)
    (case yt_NoFact => k_is)
    (case yf_at_NoFact => k_is)
    (case xu_NoFact => first | rfl | k_is)
    (case yx_NoFact => kernel_rfl)
    (case xk_NoFeed => k_is)
    (case xs_NoFeed => k_is)
    (case xt_NoFeed => k_is)
    (case xg_NoFeed => k_is)
    (case xh_NoFeed => k_is)
    (case xd_NoFeed => k_is)
    (case xa_NoFeed => k_is)
    (case xn_NoFeed => k_is)
    (case xw_NoFeed => k_is)
    (case xm_NoFeed => k_is)
    (case xv_NoFeed => k_is)
    (case yo_NoFeed => kernel_rfl)
    (case ya_NoFeed => k_is)
    (case yt_NoFeed => k_is)
    (case yf_at_NoFeed => k_is)
    (case xu_NoFeed => first | rfl | k_is)
    (case yx_NoFeed => kernel_rfl)
    (case xk_NoLetter => k_is)
    (case xs_NoLetter => k_is)
    (case xt_NoLetter => k_is)
    (case xg_NoLetter => k_is)
    (case xh_NoLetter => k_is)
    (case xd_NoLetter => k_is)
    (case xa_NoLetter => k_is)
    (case xn_NoLetter => k_is)
    (case xw_NoLetter => k_is)
    (case xm_NoLetter => k_is)
    (case xv_NoLetter => k_is)
    (case yo_NoLetter => kernel_rfl)
    (case ya_NoLetter => k_is)
    (case yt_NoLetter => k_is)
    (case yf_name_NoLetter => k_is)
    (case xu_NoLetter => first | rfl | k_is)
    (case yx_NoLetter => kernel_rfl)
    (case xk_NoLog => k_is)
    (case xs_NoLog => k_is)
    (case xt_NoLog => k_is)
    (case xg_NoLog => k_is)
    (case xh_NoLog => k_is)
    (case xd_NoLog => k_is)
    (case xa_NoLog => k_is)
    (case xn_NoLog => k_is)
    (case xw_NoLog => k_is)
    (case xm_NoLog => k_is)
    (case xv_NoLog => k_is)
    (case yo_NoLog => kernel_rfl)
    (case ya_NoLog => k_is)
    (case yt_NoLog => k_is)
    (case yf_at_NoLog => k_is)
    (case xu_NoLog => first | rfl | k_is)
    (case yx_NoLog => kernel_rfl)
    (case xk_NoName => k_is)
    (case xs_NoName => k_is)
    (case xt_NoName => k_is)
    (case xg_NoName => k_is)
    (case xh_NoName => k_is)
    (case xd_NoName => k_is)
    (case xa_NoName => k_is)
    (case xn_NoName => k_is)
    (case xw_NoName => k_is)
    (case xm_NoName => k_is)
    (case xv_NoName => k_is)
    (case yo_NoName => kernel_rfl)
    (case ya_NoName => k_is)
    (case yt_NoName => k_is)
    (case yf_name_NoName => k_is)
    (case xu_NoName => first | rfl | k_is)
    (case yx_NoName => kernel_rfl)
    (case xk_NoPast => k_is)
    (case xs_NoPast => k_is)
    (case xt_NoPast => k_is)
    (case xg_NoPast => k_is)
    (case xh_NoPast => k_is)
    (case xd_NoPast => k_is)
    (case xa_NoPast => k_is)
    (case xn_NoPast => k_is)
    (case xw_NoPast => k_is)
    (case xm_NoPast => k_is)
    (case xv_NoPast => k_is)
    (case yo_NoPast => kernel_rfl)
    (case ya_NoPast => k_is)
    (case yt_NoPast => k_is)
    (case yf_at_NoPast => k_is)
    (case xu_NoPast => first | rfl | k_is)
    (case yx_NoPast => kernel_rfl)
    (case xk_NoText => k_is)
    (case xs_NoText => k_is)
    (case xt_NoText => k_is)
    (case xg_NoText => k_is)
    (case xh_NoText => k_is)
    (case xd_NoText => k_is)
    (case xa_NoText => k_is)
    (case xn_NoText => k_is)
    (case xw_NoText => k_is)
    (case xm_NoText => k_is)
    (case xv_NoText => k_is)
    (case yo_NoText => kernel_rfl)
    (case ya_NoText => k_is)
    (case yt_NoText => k_is)
    (case yf_row_NoText => k_is)
    (case xu_NoText => first | rfl | k_is)
    (case yx_NoText => kernel_rfl)
    (case xk_NoTick => k_is)
    (case xs_NoTick => k_is)
    (case xt_NoTick => k_is)
    (case xg_NoTick => k_is)
    (case xh_NoTick => k_is)
    (case xd_NoTick => k_is)
    (case xa_NoTick => k_is)
    (case xn_NoTick => k_is)
    (case xw_NoTick => k_is)
    (case xm_NoTick => k_is)
    (case xv_NoTick => k_is)
    (case yo_NoTick => kernel_rfl)
    (case ya_NoTick => k_is)
    (case yt_NoTick => k_is)
    (case yf_at_NoTick => k_is)
    (case xu_NoTick => first | rfl | k_is)
    (case yx_NoTick => kernel_rfl)
    (case xk_TooMany => k_is)
    (case xs_TooMany => k_is)
    (case xt_TooMany => k_is)
    (case xg_TooMany => k_is)
    (case xh_TooMany => k_is)
    (case xd_TooMany => k_is)
    (case xa_TooMany => k_is)
    (case xn_TooMany => k_is)
    (case xw_TooMany => k_is)
    (case xm_TooMany => k_is)
    (case xv_TooMany => k_is)
    (case yo_TooMany => kernel_rfl)
    (case ya_TooMany => k_is)
    (case yt_TooMany => k_is)
    (case yf_limit_TooMany => k_is)
    (case xu_TooMany => first | rfl | k_is)
    (case yx_TooMany => kernel_rfl)
    (case yk_NoLetters => kernel_rfl)
    (case yl_NoLetters => kernel_rfl)
    (case yk_NoLetter => kernel_rfl)
    (case yl_NoLetter => kernel_rfl)
    (case yk_NoFeed => kernel_rfl)
    (case yl_NoFeed => kernel_rfl)
    (case yk_NoMany => kernel_rfl)
    (case yl_NoMany => kernel_rfl)
    (case yk_NoTimes => kernel_rfl)
    (case yl_NoTimes => kernel_rfl)
    (case yk_NoKeeper => kernel_rfl)
    (case yl_NoKeeper => kernel_rfl)
    (case yk_NoSum => kernel_rfl)
    (case yl_NoSum => kernel_rfl)
    (case yk_NoPast => kernel_rfl)
    (case yl_NoPast => kernel_rfl)
    (case yk_NoTally => kernel_rfl)
    (case yl_NoTally => kernel_rfl)
    (case yk_NoFact => kernel_rfl)
    (case yl_NoFact => kernel_rfl)
    (case yk_Barred => kernel_rfl)
    (case yl_Barred => kernel_rfl)
    (case yk_NoWeights => kernel_rfl)
    (case yl_NoWeights => kernel_rfl)
    (case yk_NoPaper => kernel_rfl)
    (case yl_NoPaper => kernel_rfl)
    (case yk_NoCount => kernel_rfl)
    (case yl_NoCount => kernel_rfl)
    (case yk_TooMany => kernel_rfl)
    (case yl_TooMany => kernel_rfl)
    (case yk_NoSize => kernel_rfl)
    (case yl_NoSize => kernel_rfl)
    (case yk_NoNumber => kernel_rfl)
    (case yl_NoNumber => kernel_rfl)
    (case yk_NoRank => kernel_rfl)
    (case yl_NoRank => kernel_rfl)
    (case yk_NoTruth => kernel_rfl)
    (case yl_NoTruth => kernel_rfl)
    (case yk_NoTick => kernel_rfl)
    (case yl_NoTick => kernel_rfl)
    (case yk_NoAsking => kernel_rfl)
    (case yl_NoAsking => kernel_rfl)
    (case yk_NoDeed => kernel_rfl)
    (case yl_NoDeed => kernel_rfl)
    (case yk_NoName => kernel_rfl)
    (case yl_NoName => kernel_rfl)
    (case yk_Broken => kernel_rfl)
    (case yl_Broken => kernel_rfl)
    (case yk_NoLog => kernel_rfl)
    (case yl_NoLog => kernel_rfl)
    (case yk_NoText => kernel_rfl)
    (case yl_NoText => kernel_rfl)
