import PyProof.Rows.All
import Wide.All
import OpenK.AllK
import Wide.FinOn
import HandS.ForMost
import HandS.Evl
import HandS.IsInst
import HandS.Style
import HandS.SortInts
import HandS.ListItems
import HandS.DictComp
import KE.DatumMoreOrd
import KE.DatumIndex
import KE.GoesZip
import KE.GoesMore
import KE.KTupSum
import KE.KDictSum
import HandS.Zip
import HandS.SortKw
import HandS.TupMul
import HandS.SetKeys
import HandS.Conv
import HandS.TupAny
import HandS.OwnEq
import HandS.SlotsOwn
import HandS.HeadEnd
import KE.GoesEnum
import HandS.TupLe
import HandS.NoneIn
import HandS.SetFor
import HandS.Set
import HandS.Exc
import HandS.ExcOwn
import HandS.ExcIs
import HandS.WordsExc
import HandS.ExcInit
import HandS.ExcField
import HandS.ExcValue
import HandS.Wide
import PyProof.StrBlock2
import HandS.WideBits
import HandS.Text
import HandS.MakeKwOnly
import PyProof.InstEq
import KE.SortData
import KE.KItemsList
import HandS.DictTup
import PyProof.ConsumeS
import PyProof.WalkInts
import PyProof.GenQ
import HandS.Ends
import PyProof.ReprReads
import PyProof.Rows.StrMeet
import HandS.Finally
import HandS.DeepEq
import PyProof.SliceList
import HandS.ListEq
import HandS.DictEq
import PyProof.NeKinds
import HandS.NamedTup0
import PyProof.SliceStr2
import PyProof.Rows.StrFit
import PyProof.ReprLen
import PyProof.StrLawsRepr
import PyProof.Rows.RegStrFacts
import HandS.Steps
import PyProof.Rows.StrRev
import PySem.Challenge.RW_bygone_k01_letters_known
set_option Elab.async false
set_option linter.all false
set_option maxRecDepth 100000
set_option maxHeartbeats 4000000
/-! B: worlds (an unchanging part of the heap within the heap), data read off the unchanging part, what a reading evaluates to -/
namespace B
open PySem L2
abbrev SS := L2.St
abbrev Fg := PySem.W.Frag
open Evl (Ex)
open PySem.W (Tup T3 T4 Datum DatumOrd)

/-! ### heaps -/
/-- all is kept, but that a dict may be locked -/
def Ext (H H' : Hp) : Prop := ∀ a o, H a = some o → H' a = some o ∨ ((∃ kvs, o = HO.dK kvs) ∧ ∃ ob, H' a = some (.frz ob o))
theorem Ext.refl (H : Hp) : Ext H H := fun _ _ h => .inl h
theorem exExt {H H' : Hp} (e : Ex H H') : Ext H H' := fun a o h => .inl (e a o h)
theorem Ext.trans {H H1 H2 : Hp} (a : Ext H H1) (b : Ext H1 H2) : Ext H H2 := fun x o h => by
  rcases a x o h with h1 | ⟨⟨k, rfl⟩, ob, h1⟩
  · exact b x o h1
  · rcases b x _ h1 with h2 | ⟨⟨k', h2⟩, _⟩
    · exact .inr ⟨⟨k, rfl⟩, ob, h2⟩
    · cases h2
theorem Ext.rd {H H' : Hp} {a : Addr} {u : HO} (e : Ext H H') (h : Rd H a u) : Rd H' a u := by
  rcases h with h | ⟨o, h⟩
  · rcases e a _ h with h1 | ⟨_, ob, h1⟩
    · exact .inl h1
    · exact .inr ⟨ob, h1⟩
  · rcases e a _ h with h1 | ⟨⟨k, h1⟩, _⟩
    · exact .inr ⟨o, h1⟩
    · cases h1
theorem Ext.free {H H' : Hp} {p : Addr} (e : Ext H H') (h : H' p = none) : H p = none := by
  cases q : H p with
  | none => rfl
  | some o => rcases e p o q with h1 | ⟨_, ob, h1⟩ <;> (rw [h] at h1; cases h1)
theorem Ext.l {K : Fg} {H H' : Hp} {a : Addr} {xs : List V} (e : Ext H H') (h : SqL K H a xs) : SqL K H' a xs := by
  rcases h with h | h
  · exact .inl (e.rd h)
  · exact .inr h
theorem Ext.t {K : Fg} {H H' : Hp} {a : Addr} {xs : List V} (e : Ext H H') (h : SqT K H a xs) : SqT K H' a xs := by
  rcases h with h | h
  · exact .inl (e.rd h)
  · exact .inr h
theorem Ext.el {H H' : Hp} {a : Addr} {xs : List V} (e : Ext H H') (h : H a = some (.lst xs)) : H' a = some (.lst xs) := by
  rcases e a _ h with h1 | ⟨⟨_, q⟩, _⟩
  · exact h1
  · cases q
theorem Ext.et {H H' : Hp} {a : Addr} {xs : List V} (e : Ext H H') (h : H a = some (.tup xs)) : H' a = some (.tup xs) := by
  rcases e a _ h with h1 | ⟨⟨_, q⟩, _⟩
  · exact h1
  · cases q
theorem Ext.ins {H H' : Hp} {a C dx : Addr} {fs : List (Str × V)} (e : Ext H H') (h : H a = some (.ins C dx fs)) : H' a = some (.ins C dx fs) := by
  rcases e a _ h with h1 | ⟨⟨_, q⟩, _⟩
  · exact h1
  · cases q
theorem Ext.lock {H : Hp} {d : Addr} {kvs : List (Key × V)} {od : Obj} (h : H d = some (.dK kvs)) : Ext H (upd H d (.frz od (.dK kvs))) := fun a o e => by
  by_cases q : a = d
  · subst q
    rw [h] at e; cases e
    exact .inr ⟨⟨kvs, rfl⟩, od, upd_same⟩
  · exact .inl (by rw [upd_ne q]; exact e)

/-- a world: the heap H, within it the part B that stays as it is -/
structure Wd where
  B : Hp
  H : Hp
  sub : Ext B H
/-- a thing that is no tuple stands at a -/
def Nt (H : Hp) (a : Addr) : Prop := ∃ o, H a = some o ∧ ∀ xs, o ≠ .tup xs
theorem Nt.ne {H : Hp} {a : Addr} (h : Nt H a) : H a ≠ none := by
  obtain ⟨o, e, _⟩ := h
  rw [e]; exact fun z => by cases z
theorem Nt.l {H : Hp} {a : Addr} {xs : List V} (h : H a = some (.lst xs)) : Nt H a := ⟨_, h, fun _ z => by cases z⟩
theorem Nt.k {H : Hp} {a : Addr} {xs : List (Key × V)} (h : H a = some (.dK xs)) : Nt H a := ⟨_, h, fun _ z => by cases z⟩
/-- the world has moved on: what stays is as it was (and no more of it is locked), of the rest only S may have changed; what was free to change still is -/
structure Md (S : List Addr) (W W' : Wd) : Prop where
  b : Ex W.B W'.B
  l : ∀ a o, W.B a = some o → W.H a = some o → W'.H a = some o
  o : ∀ a o, a ∉ S → W.H a = some o → W'.H a = some o
  m : ∀ a, Nt W.H a → W'.B a = W.B a
  d : ∀ a, W.H a ≠ none → W'.H a ≠ none
  n : ∀ a, Nt W.H a → Nt W'.H a
theorem Md.refl (S : List Addr) (W : Wd) : Md S W W := ⟨Evl.Ex.refl _, fun _ _ _ h => h, fun _ _ _ h => h, fun _ _ => rfl, fun _ h => h, fun _ h => h⟩
theorem Md.trans {S : List Addr} {W W1 W2 : Wd} (a : Md S W W1) (b : Md S W1 W2) : Md S W W2 := ⟨a.b.trans b.b, fun x o h1 h2 => b.l x o (a.b x o h1) (a.l x o h1 h2), fun x o h1 h2 => b.o x o h1 (a.o x o h1 h2), fun x hx => by
  rw [b.m x (a.n x hx), a.m x hx], fun x hx => b.d x (a.d x hx), fun x hx => b.n x (a.n x hx)⟩
theorem Md.mono {S S' : List Addr} {W W' : Wd} (a : Md S W W') (h : ∀ x, x ∈ S → x ∈ S') : Md S' W W' := ⟨a.b, a.l, fun x o h1 h2 => a.o x o (fun z => h1 (h x z)) h2, a.m, a.d, a.n⟩
theorem Md.mut {S : List Addr} {W W' : Wd} (g : Md S W W') {a : Addr} {o : HO} (hS : a ∉ S) (h : W.H a = some o) (n : W.B a = none) (ho : ∀ xs, o ≠ .tup xs := by intro _ h; cases h) : W'.H a = some o ∧ W'.B a = none :=
  ⟨g.o a o hS h, by rw [g.m a ⟨o, h, ho⟩]; exact n⟩
abbrev Grow := Md []
theorem Md.h {W W' : Wd} (g : Md [] W W') : Ex W.H W'.H := fun a o e => g.o a o (by simp) e
theorem Grow.s {S : List Addr} {W W' : Wd} (g : Grow W W') : Md S W W' := g.mono fun _ h => by simp at h
theorem Grow.mk {W W' : Wd} (b : Ex W.B W'.B) (h : Ex W.H W'.H) (m : ∀ a, Nt W.H a → W'.B a = W.B a) : Grow W W' := ⟨b, fun a o _ h2 => h a o h2, fun a o _ h2 => h a o h2, m, fun a h2 z => (by
  cases q : W.H a with
  | none => exact h2 q
  | some o => rw [h a o q] at z; cases z), fun a ⟨o, e, ho⟩ => ⟨o, h a o e, ho⟩⟩
theorem Wd.free (W : Wd) {p : Addr} (h : W.H p = none) : W.B p = none := W.sub.free h
/-- a new thing that stays -/
def Wd.add (W : Wd) (p : Addr) (o : HO) : Wd := ⟨upd W.B p o, upd W.H p o, fun a u e => by
  by_cases q : a = p
  · subst q; rw [upd_same] at e; cases e; exact .inl upd_same
  · rw [upd_ne q] at e; rw [upd_ne q]; exact W.sub a u e⟩
theorem Wd.grow_add (W : Wd) {p : Addr} {o : HO} (h : W.H p = none) : Grow W (W.add p o) :=
  .mk (Evl.Ex.new (W.free h)) (Evl.Ex.new h) fun a ha => by
    have : a ≠ p := fun e => ha.ne (by rw [e]; exact h)
    show upd W.B p o a = W.B a
    rw [upd_ne this]
/-- a thing that may change, new or changed -/
def Wd.put (W : Wd) (p : Addr) (o : HO) (h : W.B p = none) : Wd := ⟨W.B, upd W.H p o, fun a u e => by
  have q : a ≠ p := fun q => by rw [q, h] at e; cases e
  rw [upd_ne q]; exact W.sub a u e⟩
theorem Wd.grow_put (W : Wd) {p : Addr} {o : HO} (h : W.H p = none) : Grow W (W.put p o (W.free h)) :=
  .mk (Evl.Ex.refl _) (Evl.Ex.new h) fun _ _ => rfl
theorem md_put {W : Wd} {p : Addr} {o : HO} (h : W.B p = none) (ho : ∀ xs, o ≠ .tup xs := by intro _ h; cases h) : Md [p] W (W.put p o h) := ⟨Evl.Ex.refl _, fun a u h1 h2 => by
    have : a ≠ p := fun e => by rw [e, h] at h1; cases h1
    show upd W.H p o a = some u
    rw [upd_ne this]; exact h2, fun a u h1 h2 => by
    have : a ≠ p := fun e => h1 (by rw [e]; simp)
    show upd W.H p o a = some u
    rw [upd_ne this]; exact h2, fun _ _ => rfl, fun a ha => by
    show upd W.H p o a ≠ none
    by_cases q : a = p
    · rw [q, upd_same]; exact fun z => by cases z
    · rw [upd_ne q]; exact ha, fun a ha => by
    show Nt (upd W.H p o) a
    by_cases q : a = p
    · rw [q]; exact ⟨o, upd_same, ho⟩
    · obtain ⟨u, e, hu⟩ := ha
      exact ⟨u, (upd_ne q).trans e, hu⟩⟩
/-- tuples never change: those at bs may be taken into what stays -/
def Wd.tup (W : Wd) (bs : List Addr) : Wd := ⟨fun b => match W.B b with
    | some o => some o
    | none => match W.H b with
      | some (.tup xs) => if b ∈ bs then some (.tup xs) else none
      | _ => none, W.H, fun b o e => by
  cases q : W.B b with
  | some u =>
    simp only [q] at e
    cases e
    exact W.sub b _ q
  | none =>
    simp only [q] at e
    cases q2 : W.H b with
    | none => simp only [q2] at e; cases e
    | some u =>
      cases u <;> simp only [q2] at e <;> try (cases e; done)
      split at e
      · cases e; exact .inl rfl
      · cases e⟩
theorem Wd.grow_tup (W : Wd) (bs : List Addr) : Grow W (W.tup bs) := .mk (fun b o e => by
    show (match W.B b with | some o => some o | none => _) = some o
    rw [e]) (fun _ _ h => h) fun b ⟨o, e, ho⟩ => by
  show (match W.B b with | some o => some o | none => _) = W.B b
  cases q : W.B b with
  | some u => rfl
  | none =>
    rw [e]
    cases o <;> first | rfl | exact absurd rfl (ho _)
theorem Wd.tup_at {W : Wd} {bs : List Addr} {b : Addr} {xs : List V} (h : W.H b = some (.tup xs)) (hb : b ∈ bs) : (W.tup bs).B b = some (.tup xs) := by
  show (match W.B b with | some o => some o | none => _) = _
  cases q : W.B b with
  | some u =>
    rcases W.sub b _ q with z | ⟨⟨k, rfl⟩, ob, z⟩
    · rw [h] at z; cases z; rfl
    · rw [h] at z; cases z
  | none =>
    simp only [h, if_pos hb]
/-- what an expression may do: S may change, I holds throughout -/
structure Ef where
  S : List Addr
  I : Wd → Prop
  dom : ∀ W a, I W → a ∈ S → Nt W.H a
  mv : ∀ W W', Ex W.B W'.B → (∀ a, a ∈ S → Nt W.H a → W'.H a = W.H a ∧ W'.B a = W.B a) → I W → I W'
theorem Ef.grow (ε : Ef) (W W' : Wd) (g : Grow W W') (h : ε.I W) : ε.I W' := ε.mv W W' g.b (fun a _ ha => by
  obtain ⟨o, q, _⟩ := id ha
  exact ⟨(g.h a o q).trans q.symm, g.m a ha⟩) h
theorem Ef.off {ε : Ef} {W : Wd} {D : Addr} (i : ε.I W) (h : W.H D = none) : D ∉ ε.S := fun z => (ε.dom W D i z).ne h
def pur : Ef := ⟨[], fun _ => True, fun _ _ _ h => by simp at h, fun _ _ _ _ _ => trivial⟩
structure Stp (ε : Ef) (W W' : Wd) : Prop where
  md : Md ε.S W W'
  i : ε.I W'
theorem Stp.rf {ε : Ef} {W W' : Wd} (a : Stp ε W W') : Stp ε W' W' := ⟨.refl _ _, a.i⟩
theorem Stp.start {ε : Ef} {W : Wd} (a : ε.I W) : Stp ε W W := ⟨.refl _ _, a⟩
theorem Stp.trans {ε : Ef} {W W1 W2 : Wd} (a : Stp ε W W1) (b : Stp ε W1 W2) : Stp ε W W2 := ⟨a.md.trans b.md, b.i⟩
theorem Stp.and {ε : Ef} {W W1 W2 : Wd} (a : Stp ε W W1) (b : Grow W1 W2) : Stp ε W W2 := ⟨a.md.trans (Grow.s b), ε.grow _ _ b a.i⟩
theorem Stp.pure {W W' : Wd} (a : Stp pur W W') : Grow W W' := a.md
theorem Stp.of {W W' : Wd} (a : Grow W W') : Stp pur W W' := ⟨a, trivial⟩

/-! ### data -/
class Py (α : Type) where
  rep : Fg → Hp → V → α → Prop
  mono : ∀ {K : Fg} {H H' : Hp} {v : V} {x : α}, Ext H H' → rep K H v x → rep K H' v x
abbrev rep {α : Type} [Py α] (K : Fg) (H : Hp) (v : V) (x : α) : Prop := Py.rep K H v x
theorem rex {α : Type} [Py α] {K : Fg} {H H' : Hp} {v : V} {x : α} (e : Ex H H') (h : rep K H v x) : rep K H' v x := Py.mono (exExt e) h
instance : Py Int := ⟨fun _ _ v i => v = .int i, fun _ h => h⟩
instance : Py Bool := ⟨fun _ _ v b => v = .bl b, fun _ h => h⟩
instance : Py Str := ⟨fun _ _ v s => v = .str s, fun _ h => h⟩
instance : Py Unit := ⟨fun _ _ v _ => v = .non, fun _ h => h⟩
/-- any value by itself -/
structure Raw where
  v : V
instance : Py Raw := ⟨fun _ _ v x => v = x.v, fun _ h => h⟩
abbrev Reps {α : Type} [Py α] (K : Fg) (H : Hp) (vs : List V) (xs : List α) : Prop := Paired (rep K H) vs xs
theorem Reps.mono {α : Type} [Py α] {K : Fg} {H H' : Hp} (e : Ext H H') : ∀ {vs : List V} {xs : List α}, Reps K H vs xs → Reps K H' vs xs
  | _, _, .nil => .nil
  | _, _, .cons a b => .cons (Py.mono e a) (Reps.mono e b)
theorem Reps.len {α : Type} [Py α] {K : Fg} {H : Hp} {vs : List V} {xs : List α} (h : Reps K H vs xs) : vs.length = xs.length := Paired.length h
theorem Reps.get {α : Type} [Py α] {K : Fg} {H : Hp} : ∀ {vs : List V} {xs : List α}, Reps K H vs xs → ∀ {i : Nat} {v : V}, vs[i]? = some v → ∃ x, xs[i]? = some x ∧ rep K H v x
  | _, _, .nil, i, v, e => by simp at e
  | _, _, .cons a b, 0, v, e => by simp at e; subst e; exact ⟨_, rfl, a⟩
  | _, _, .cons a b, i + 1, v, e => by
    obtain ⟨x, h1, h2⟩ := Reps.get b (i := i) (v := v) (by simpa using e)
    exact ⟨x, by simpa using h1, h2⟩
theorem Reps.get' {α : Type} [Py α] {K : Fg} {H : Hp} : ∀ {vs : List V} {xs : List α}, Reps K H vs xs → ∀ {i : Nat} {x : α}, xs[i]? = some x → ∃ v, vs[i]? = some v ∧ rep K H v x
  | _, _, .nil, i, v, e => by simp at e
  | _, _, .cons a b, 0, v, e => by simp at e; subst e; exact ⟨_, rfl, a⟩
  | _, _, .cons a b, i + 1, v, e => by
    obtain ⟨x, h1, h2⟩ := Reps.get' b (i := i) (x := v) (by simpa using e)
    exact ⟨x, by simpa using h1, h2⟩
theorem Reps.snoc {α : Type} [Py α] {K : Fg} {H : Hp} {vs : List V} {xs : List α} {v : V} {x : α} (h : Reps K H vs xs) (r : rep K H v x) : Reps K H (vs ++ [v]) (xs ++ [x]) := Paired.snoc h r
theorem Reps.app {α : Type} [Py α] {K : Fg} {H : Hp} : ∀ {vs ws : List V} {xs ys : List α}, Reps K H vs xs → Reps K H ws ys → Reps K H (vs ++ ws) (xs ++ ys)
  | _, _, _, _, .nil, h => h
  | _, _, _, _, .cons a b, h => .cons a (Reps.app b h)
theorem Reps.rev {α : Type} [Py α] {K : Fg} {H : Hp} : ∀ {vs : List V} {xs : List α}, Reps K H vs xs → Reps K H vs.reverse xs.reverse
  | _, _, .nil => .nil
  | _, _, .cons a b => by simp only [List.reverse_cons]; exact Reps.snoc (Reps.rev b) a
theorem Reps.take {α : Type} [Py α] {K : Fg} {H : Hp} : ∀ (n : Nat) {vs : List V} {xs : List α}, Reps K H vs xs → Reps K H (vs.take n) (xs.take n)
  | 0, _, _, _ => .nil
  | n + 1, _, _, .nil => .nil
  | n + 1, _, _, .cons a b => .cons a (Reps.take n b)
theorem Reps.drop {α : Type} [Py α] {K : Fg} {H : Hp} : ∀ (n : Nat) {vs : List V} {xs : List α}, Reps K H vs xs → Reps K H (vs.drop n) (xs.drop n)
  | 0, _, _, h => h
  | n + 1, _, _, .nil => .nil
  | n + 1, _, _, .cons a b => Reps.drop n b
theorem Reps.set {α : Type} [Py α] {K : Fg} {H : Hp} {v : V} {x : α} (r : rep K H v x) : ∀ {vs : List V} {xs : List α} (i : Nat), Reps K H vs xs → Reps K H (vs.set i v) (xs.set i x)
  | _, _, _, .nil => .nil
  | _, _, 0, .cons a b => .cons r b
  | _, _, i + 1, .cons a b => .cons a (Reps.set r i b)
theorem reps_int {K : Fg} {H : Hp} : ∀ {vs : List V} {ns : List Int}, Reps K H vs ns → vs = ns.map V.int
  | _, _, .nil => rfl
  | _, _, .cons a b => by rw [show _ = _ from a, reps_int b]; rfl
theorem int_reps {K : Fg} {H : Hp} : ∀ (ns : List Int), Reps K H (ns.map V.int) ns
  | [] => .nil
  | _ :: r => .cons rfl (int_reps r)
theorem reps_str {K : Fg} {H : Hp} : ∀ {vs : List V} {ns : List Str}, Reps K H vs ns → vs = ns.map V.str
  | _, _, .nil => rfl
  | _, _, .cons a b => by rw [show _ = _ from a, reps_str b]; rfl
theorem str_reps {K : Fg} {H : Hp} : ∀ (ns : List Str), Reps K H (ns.map V.str) ns
  | [] => .nil
  | _ :: r => .cons rfl (str_reps r)
theorem reps_bl {K : Fg} {H : Hp} : ∀ {vs : List V} {ns : List Bool}, Reps K H vs ns → vs = ns.map V.bl
  | _, _, .nil => rfl
  | _, _, .cons a b => by rw [show _ = _ from a, reps_bl b]; rfl
theorem bl_reps {K : Fg} {H : Hp} : ∀ (ns : List Bool), Reps K H (ns.map V.bl) ns
  | [] => .nil
  | _ :: r => .cons rfl (bl_reps r)
instance {α : Type} [Py α] : Py (List α) := ⟨fun K H v xs => ∃ a vs, v = .ref a ∧ H a = some (.lst vs) ∧ Reps K H vs xs,
  fun e ⟨a, vs, h1, h2, h3⟩ => ⟨a, vs, h1, e.el h2, Reps.mono e h3⟩⟩
instance {α : Type} [Py α] : Py (Tup α) := ⟨fun K H v xs => ∃ a vs, v = .ref a ∧ H a = some (.tup vs) ∧ Reps K H vs xs.items,
  fun e ⟨a, vs, h1, h2, h3⟩ => ⟨a, vs, h1, e.et h2, Reps.mono e h3⟩⟩
instance {α β : Type} [Py α] [Py β] : Py (α × β) := ⟨fun K H v p => ∃ a x y, v = .ref a ∧ H a = some (.tup [x, y]) ∧ rep K H x p.1 ∧ rep K H y p.2,
  fun e ⟨a, x, y, h1, h2, h3, h4⟩ => ⟨a, x, y, h1, e.et h2, Py.mono e h3, Py.mono e h4⟩⟩
instance {α β γ : Type} [Py α] [Py β] [Py γ] : Py (T3 α β γ) := ⟨fun K H v p => ∃ a x y z, v = .ref a ∧ H a = some (.tup [x, y, z]) ∧ rep K H x p.a ∧ rep K H y p.b ∧ rep K H z p.c,
  fun e ⟨a, x, y, z, h1, h2, h3, h4, h5⟩ => ⟨a, x, y, z, h1, e.et h2, Py.mono e h3, Py.mono e h4, Py.mono e h5⟩⟩
instance {α β γ δ : Type} [Py α] [Py β] [Py γ] [Py δ] : Py (T4 α β γ δ) := ⟨fun K H v p => ∃ a x y z w, v = .ref a ∧ H a = some (.tup [x, y, z, w]) ∧ rep K H x p.a ∧ rep K H y p.b ∧ rep K H z p.c ∧ rep K H w p.d,
  fun e ⟨a, x, y, z, w, h1, h2, h3, h4, h5, h6⟩ => ⟨a, x, y, z, w, h1, e.et h2, Py.mono e h3, Py.mono e h4, Py.mono e h5, Py.mono e h6⟩⟩
instance {α : Type} [Py α] : Py (Option α) := ⟨fun K H v o => match o with | none => v = .non | some x => rep K H v x,
  fun {_ _ _ _ o} e h => match o, h with | none, h => h | some _, h => Py.mono e h⟩
class PyKey (κ : Type) where
  key : κ → Key
  inj : ∀ {a b : κ}, key a = key b → a = b
instance : PyKey Int := ⟨.inl, fun h => Sum.inl.inj h⟩
instance : PyKey Str := ⟨.inr, fun h => Sum.inr.inj h⟩
structure Dict (κ α : Type) where
  kv : List (κ × α)
abbrev KReps {κ α : Type} [PyKey κ] [Py α] (K : Fg) (H : Hp) (ks : List (Key × V)) (xs : List (κ × α)) : Prop := Paired (fun p q => p.1 = PyKey.key q.1 ∧ rep K H p.2 q.2) ks xs
theorem KReps.mono {κ α : Type} [PyKey κ] [Py α] {K : Fg} {H H' : Hp} (e : Ext H H') : ∀ {vs : List (Key × V)} {xs : List (κ × α)}, KReps K H vs xs → KReps K H' vs xs
  | _, _, .nil => .nil
  | _, _, .cons a b => .cons ⟨a.1, Py.mono e a.2⟩ (KReps.mono e b)
theorem KReps.len {κ α : Type} [PyKey κ] [Py α] {K : Fg} {H : Hp} {vs : List (Key × V)} {xs : List (κ × α)} (h : KReps K H vs xs) : vs.length = xs.length := Paired.length h
theorem KReps.get {κ α : Type} [PyKey κ] [Py α] {K : Fg} {H : Hp} : ∀ {vs : List (Key × V)} {xs : List (κ × α)}, KReps K H vs xs → ∀ {i : Nat} {k : Key} {v : V}, vs[i]? = some (k, v) → ∃ q, xs[i]? = some q ∧ k = PyKey.key q.1 ∧ rep K H v q.2
  | _, _, .nil, i, k, v, e => by simp at e
  | _, _, .cons a b, 0, k, v, e => by simp at e; subst e; exact ⟨_, rfl, a⟩
  | _, _, .cons a b, i + 1, k, v, e => by
    obtain ⟨x, h1, h2⟩ := KReps.get b (i := i) (k := k) (v := v) (by simpa using e)
    exact ⟨x, by simpa using h1, h2⟩
instance {κ α : Type} [PyKey κ] [Py α] : Py (Dict κ α) := ⟨fun K H v d => ∃ a ks, v = .ref a ∧ Rd H a (.dK ks) ∧ KReps K H ks d.kv,
  fun e ⟨a, vs, h1, h2, h3⟩ => ⟨a, vs, h1, e.rd h2, KReps.mono e h3⟩⟩
theorem key_rep {κ : Type} [PyKey κ] [Py κ] (K : Fg) (H : Hp) (h : ∀ k : κ, rep K H (kV (PyKey.key k)) k) (k : κ) : rep K H (kV (PyKey.key k)) k := h k
class PyKV (κ : Type) extends PyKey κ, Py κ where
  krep : ∀ (K : Fg) (H : Hp) (k : κ), Py.rep K H (kV (key k)) k
  keyv : ∀ {K : Fg} {H : Hp} {v : V} {k : κ}, Py.rep K H v k → v = kV (key k)
instance : PyKV Int := { krep := fun _ _ _ => rfl, keyv := fun h => h }
instance : PyKV Str := { krep := fun _ _ _ => rfl, keyv := fun h => h }
/-! ### data that == tells apart -/
class PyD (α : Type) [DecidableEq α] [Datum α] [Py α] : Prop where
  dp : ∀ {K : Fg} {H : Hp} {v : V} {x : α}, rep K H v x → Dp K H v (Datum.toD x)
theorem reps_dp {α : Type} [DecidableEq α] [Datum α] [Py α] [PyD α] {K : Fg} {H : Hp} : ∀ {vs : List V} {xs : List α}, Reps K H vs xs → DpAll K H vs (xs.map Datum.toD)
  | _, _, .nil => .nil
  | _, _, .cons a b => .cons (PyD.dp a) (reps_dp b)
instance : PyD Int := ⟨fun {K H v x} h => by rw [show v = _ from h]; exact .int x⟩
instance : PyD Bool := ⟨fun {K H v x} h => by rw [show v = _ from h]; exact .bl x⟩
instance : PyD Str := ⟨fun {K H v x} h => by rw [show v = _ from h]; exact .str x⟩
instance : PyD Unit := ⟨fun {K H v x} h => by rw [show v = _ from h]; exact .non⟩
section
variable {α β γ δ : Type} [DecidableEq α] [Datum α] [Py α] [PyD α] [DecidableEq β] [Datum β] [Py β] [PyD β] [DecidableEq γ] [Datum γ] [Py γ] [PyD γ] [DecidableEq δ] [Datum δ] [Py δ] [PyD δ]
instance : PyD (List α) := ⟨fun ⟨a, vs, e, h, r⟩ => by rw [e]; exact .lst (SqL.of h) (reps_dp r)⟩
instance : PyD (Tup α) := ⟨fun ⟨a, vs, e, h, r⟩ => by rw [e]; exact .tup (SqT.of h) (reps_dp r)⟩
instance : PyD (α × β) := ⟨fun ⟨a, x, y, e, h, r1, r2⟩ => by rw [e]; exact .tup (SqT.of h) (.cons (PyD.dp r1) (.cons (PyD.dp r2) .nil))⟩
instance : PyD (T3 α β γ) := ⟨fun ⟨a, x, y, z, e, h, r1, r2, r3⟩ => by rw [e]; exact .tup (SqT.of h) (.cons (PyD.dp r1) (.cons (PyD.dp r2) (.cons (PyD.dp r3) .nil)))⟩
instance : PyD (T4 α β γ δ) := ⟨fun ⟨a, x, y, z, w, e, h, r1, r2, r3, r4⟩ => by rw [e]; exact .tup (SqT.of h) (.cons (PyD.dp r1) (.cons (PyD.dp r2) (.cons (PyD.dp r3) (.cons (PyD.dp r4) .nil))))⟩
end
theorem holds_of {X : Cx} {pins : List (Addr × Obj)} {σ : SS} {H : Hp} {s : Shared} {α : Type} [DecidableEq α] [Datum α] {v : V} {u : Value} {x : α} (I : Inv X pins σ H s) (h : Dp X.K H v (Datum.toD x)) (r : RelV v u) : PySem.W.Holds s.heap u x := Dp.reads I _ v u h r
/-- == of two such of one type -/
def rEqT (K : Fg) (neg : Bool) : R2 := fun x y H Q => ∃ (α : Type) (_ : DecidableEq α) (_ : Datum α) (a b : α), Dp K H x (Datum.toD a) ∧ Dp K H y (Datum.toD b) ∧ Datum.depth α ≤ 60 ∧ Q (.bl (if neg then !decide (a = b) else decide (a = b))) H
def rLtT (K : Fg) : R2 := fun x y H Q => ∃ (α : Type) (_ : DecidableEq α) (_ : DatumOrd α) (a b : α), Dp K H x (Datum.toD a) ∧ Dp K H y (Datum.toD b) ∧ Datum.depth α ≤ 60 ∧ Q (.bl (DatumOrd.lt a b)) H
def rInTL (K : Fg) (neg : Bool) : R2 := fun x y H Q => ∃ (α : Type) (_ : DecidableEq α) (_ : Datum α) (a : α) (b : List α), Dp K H x (Datum.toD a) ∧ Dp K H y (Datum.toD b) ∧ Datum.depth α ≤ 60 ∧ Q (.bl (if neg then !decide (a ∈ b) else decide (a ∈ b))) H
def rInTT (K : Fg) (neg : Bool) : R2 := fun x y H Q => ∃ (α : Type) (_ : DecidableEq α) (_ : Datum α) (a : α) (b : Tup α), Dp K H x (Datum.toD a) ∧ Dp K H y (Datum.toD b) ∧ Datum.depth α ≤ 60 ∧ Q (.bl (if neg then !decide (a ∈ b.items) else decide (a ∈ b.items))) H
section
variable {X : Cx}
theorem op_eqT (hu : X.A.units + 64 < cLine) : OpR X (compareOp .Eq) (rEqT X.K false) := by
  intro pins s σ H x y v u Q I rx ry h
  obtain ⟨α, _, _, a, b, ha, hb, hd, q⟩ := h
  exact PySem.W.eq_datum (holds_of I ha rx) (holds_of I hb ry) (by omega) ⟨.bl _, H, I, rfl, q⟩
theorem op_neT (hu : X.A.units + 64 < cLine) : OpR X (compareOp .NotEq) (rEqT X.K true) := by
  intro pins s σ H x y v u Q I rx ry h
  obtain ⟨α, _, _, a, b, ha, hb, hd, q⟩ := h
  refine PySem.W.ne_datum (holds_of I ha rx) (holds_of I hb ry) (by omega) ⟨.bl _, H, I, ?_, q⟩
  show Value.bool _ = Value.bool _
  simp
theorem op_ltTT (hu : X.A.units + 64 < cLine) : OpR X (compareOp .Lt) (rLtT X.K) := by
  intro pins s σ H x y v u Q I rx ry h
  obtain ⟨α, _, _, a, b, ha, hb, hd, q⟩ := h
  exact PySem.W.lt_datum (holds_of I ha rx) (holds_of I hb ry) (by omega) ⟨.bl _, H, I, rfl, q⟩
theorem op_inTL (hu : X.A.units + 64 < cLine) : OpR X (compareOp .In) (rInTL X.K false) := by
  intro pins s σ H x y v u Q I rx ry h
  obtain ⟨α, _, _, a, b, ha, hb, hd, q⟩ := h
  obtain ⟨l, vs, rfl, hl, H2⟩ := PySem.W.list_of_holds (holds_of I hb ry)
  exact PySem.W.in_list_datum hl H2 (holds_of I ha rx) (by omega) ⟨.bl _, H, I, rfl, q⟩
theorem op_notInTL (hu : X.A.units + 64 < cLine) : OpR X (compareOp .NotIn) (rInTL X.K true) := by
  intro pins s σ H x y v u Q I rx ry h
  obtain ⟨α, _, _, a, b, ha, hb, hd, q⟩ := h
  obtain ⟨l, vs, rfl, hl, H2⟩ := PySem.W.list_of_holds (holds_of I hb ry)
  refine PySem.W.notIn_list_datum hl H2 (holds_of I ha rx) (by omega) ⟨.bl _, H, I, ?_, q⟩
  show Value.bool _ = Value.bool _
  simp
theorem op_inTT (hu : X.A.units + 64 < cLine) : OpR X (compareOp .In) (rInTT X.K false) := by
  intro pins s σ H x y v u Q I rx ry h
  obtain ⟨α, _, _, a, b, ha, hb, hd, q⟩ := h
  obtain ⟨l, vs, rfl, hl, H2⟩ := PySem.W.tup_of_holds (holds_of I hb ry)
  exact PySem.W.in_tuple_datum hl H2 (holds_of I ha rx) (by omega) ⟨.bl _, H, I, rfl, q⟩
theorem op_notInTT (hu : X.A.units + 64 < cLine) : OpR X (compareOp .NotIn) (rInTT X.K true) := by
  intro pins s σ H x y v u Q I rx ry h
  obtain ⟨α, _, _, a, b, ha, hb, hd, q⟩ := h
  obtain ⟨l, vs, rfl, hl, H2⟩ := PySem.W.tup_of_holds (holds_of I hb ry)
  refine PySem.W.notIn_tuple_datum hl H2 (holds_of I ha rx) (by omega) ⟨.bl _, H, I, ?_, q⟩
  show Value.bool _ = Value.bool _
  simp
end
end B
/-! B: what a reading evaluates to in a world -/
namespace B
open PySem L2
open Evl (Ex)
open PySem.W (Tup T3 T4 Datum DatumOrd)

/-- later: what stays is as it was, and no more of it is locked -/
structure On (W W' : Wd) : Prop where
  b : Ex W.B W'.B
  l : ∀ a o, W.B a = some o → W.H a = some o → W'.H a = some o
theorem On.refl (W : Wd) : On W W := ⟨Evl.Ex.refl _, fun _ _ _ h => h⟩
theorem On.trans {W W1 W2 : Wd} (x : On W W1) (y : On W1 W2) : On W W2 := ⟨x.b.trans y.b, fun a o h1 h2 => y.l a o (x.b a o h1) (x.l a o h1 h2)⟩
theorem Md.on {S : List Addr} {W W' : Wd} (g : Md S W W') : On W W' := ⟨g.b, g.l⟩
theorem Stp.on {ε : Ef} {W W' : Wd} (g : Stp ε W W') : On W W' := g.md.on

section
variable {α β γ : Type} [Py α] [Py β] [Py γ] {K : Fg} {σ : SS} {W W' : Wd} {v : V} {x : α} {ε : Ef} {S : List Addr}
theorem rep_g (g : Md S W W') (h : rep K W.B v x) : rep K W'.B v x := rex g.b h
theorem rep_s (g : Stp ε W W') (h : rep K W.B v x) : rep K W'.B v x := rex g.md.b h
theorem rep_on (g : On W W') (h : rep K W.B v x) : rep K W'.B v x := rex g.b h
theorem rep_h (h : rep K W.B v x) : rep K W.H v x := Py.mono W.sub h
end
/-- an unlocked dict that stays -/
def DictAt {κ α : Type} [PyKey κ] [Py α] (K : Fg) (W : Wd) (v : V) (d : Dict κ α) : Prop :=
  ∃ a ks, v = .ref a ∧ W.B a = some (.dK ks) ∧ W.H a = some (.dK ks) ∧ KReps K W.B ks d.kv
section
variable {κ α : Type} [PyKey κ] [Py α] {K : Fg} {W W' : Wd} {v : V} {d : Dict κ α} {ε : Ef} {S : List Addr}
theorem DictAt.rep (h : DictAt K W v d) : rep K W.B v d := by
  obtain ⟨a, ks, h1, h2, h3, h4⟩ := h
  exact ⟨a, ks, h1, .inl h2, h4⟩
theorem DictAt.on (g : On W W') (h : DictAt K W v d) : DictAt K W' v d := by
  obtain ⟨a, ks, h1, h2, h3, h4⟩ := h
  exact ⟨a, ks, h1, g.b _ _ h2, g.l _ _ h2 h3, KReps.mono (exExt g.b) h4⟩
theorem DictAt.g (g : Md S W W') (h : DictAt K W v d) : DictAt K W' v d := h.on g.on
theorem DictAt.s (g : Stp ε W W') (h : DictAt K W v d) : DictAt K W' v d := h.on g.on
end

theorem nodup_le {α : Type} [DecidableEq α] : ∀ {l m : List α}, l.Nodup → (∀ x ∈ l, x ∈ m) → l.length ≤ m.length
  | [], _, _, _ => Nat.zero_le _
  | x :: l, m, n, h => by
    rw [List.nodup_cons] at n
    have hx := h x List.mem_cons_self
    have := nodup_le (m := m.erase x) n.2 fun y hy => (List.mem_erase_of_ne (fun (e : y = x) => n.1 (e ▸ hy))).mpr (h y (List.mem_cons_of_mem _ hy))
    rw [List.length_erase_of_mem hx] at this
    have : 0 < m.length := List.length_pos_of_mem hx
    rw [List.length_cons]
    omega
/-! tables -/
section
variable {κ α : Type} [DecidableEq κ]
def klook (kv : List (κ × α)) (k : κ) : Option α := (kv.find? fun q => decide (q.1 = k)).map (·.2)
def kput (kv : List (κ × α)) (k : κ) (v : α) : List (κ × α) := if (kv.any fun q => decide (q.1 = k)) = true then kv.map (fun q => if q.1 = k then (q.1, v) else q) else kv ++ [(k, v)]
def kdrop (kv : List (κ × α)) (k : κ) : List (κ × α) := kv.filter fun q => decide (q.1 ≠ k)
theorem klook_nil {k : κ} : klook ([] : List (κ × α)) k = none := rfl
theorem klook_cons {q : κ × α} {kv : List (κ × α)} {k : κ} : klook (q :: kv) k = if q.1 = k then some q.2 else klook kv k := by
  unfold klook
  rw [List.find?_cons]
  by_cases h : q.1 = k
  · simp [h]
  · simp [h]
theorem klook_none {k : κ} : ∀ {kv : List (κ × α)}, klook kv k = none ↔ k ∉ kv.map (·.1)
  | [] => by simp [klook_nil]
  | q :: kv => by
    rw [klook_cons]
    by_cases h : q.1 = k
    · simp [h]
    · rw [if_neg h, klook_none, List.map_cons, List.mem_cons, not_or]
      exact ⟨fun z => ⟨fun e => h e.symm, z⟩, fun z => z.2⟩
theorem klook_mem {k : κ} {v : α} : ∀ {kv : List (κ × α)}, klook kv k = some v → (k, v) ∈ kv
  | [], h => by simp [klook_nil] at h
  | q :: kv, h => by
    rw [klook_cons] at h
    by_cases e : q.1 = k
    · rw [if_pos e] at h
      have : q = (k, v) := Prod.ext e (Option.some.inj h)
      rw [this]; exact List.mem_cons_self
    · rw [if_neg e] at h; exact List.mem_cons_of_mem _ (klook_mem h)
theorem klook_of_mem {k : κ} {v : α} : ∀ {kv : List (κ × α)}, (kv.map (·.1)).Nodup → (k, v) ∈ kv → klook kv k = some v
  | [], _, h => by simp at h
  | q :: kv, n, h => by
    rw [List.map_cons, List.nodup_cons] at n
    rw [klook_cons]
    rcases List.mem_cons.mp h with e | h
    · rw [← e]; simp
    · have : q.1 ≠ k := fun z => n.1 (List.mem_map.mpr ⟨(k, v), h, z.symm⟩)
      rw [if_neg this]; exact klook_of_mem n.2 h
theorem kput_mem {kv : List (κ × α)} {k : κ} {v : α} {q : κ × α} (h : q ∈ kput kv k v) : q ∈ kv ∨ q = (k, v) := by
  unfold kput at h
  split at h
  · obtain ⟨q', h1, h2⟩ := List.mem_map.mp h
    by_cases e : q'.1 = k
    · rw [if_pos e] at h2; exact .inr (by rw [← h2, e])
    · rw [if_neg e] at h2; exact .inl (h2 ▸ h1)
  · rcases List.mem_append.mp h with h | h
    · exact .inl h
    · exact .inr (by simpa using h)
theorem kput_keys_nodup {kv : List (κ × α)} {k : κ} {v : α} (n : (kv.map (·.1)).Nodup) : ((kput kv k v).map (·.1)).Nodup := by
  unfold kput
  split
  · have : (kv.map (fun q => if q.1 = k then (q.1, v) else q)).map (·.1) = kv.map (·.1) := by
      rw [List.map_map]
      refine List.map_congr_left fun q _ => ?_
      show (if q.1 = k then (q.1, v) else q).1 = q.1
      split <;> rfl
    rw [this]; exact n
  · rename_i h
    rw [List.map_append, List.map_cons, List.map_nil, List.nodup_append]
    refine ⟨n, by simp, fun a ha b hb => ?_⟩
    have e : b = k := by simpa using hb
    subst e
    intro z
    subst z
    obtain ⟨q, h1, h2⟩ := List.mem_map.mp ha
    exact h (List.any_eq_true.mpr ⟨q, h1, by simp [h2]⟩)
theorem kput_len (kv : List (κ × α)) (k : κ) (v : α) : (kput kv k v).length ≤ kv.length + 1 := by
  unfold kput
  split <;> simp
theorem klook_put (kv : List (κ × α)) (k j : κ) (v : α) : klook (kput kv k v) j = if j = k then some v else klook kv j := by
  unfold kput
  by_cases h : (kv.any fun q => decide (q.1 = k)) = true
  · rw [if_pos h]
    have main : ∀ kv : List (κ × α), klook (kv.map (fun q => if q.1 = k then (q.1, v) else q)) j = if j = k then (if k ∈ kv.map (·.1) then some v else none) else klook kv j := by
      intro kv
      induction kv with
      | nil => simp [klook_nil]
      | cons q kv ih =>
        rw [List.map_cons, klook_cons, ih, klook_cons, List.map_cons]
        by_cases e : q.1 = k
        · rw [if_pos e]
          by_cases e2 : j = k
          · subst e2; simp [e]
          · have : ¬ q.1 = j := fun z => e2 (z.symm.trans e)
            simp [e2, this]
        · rw [if_neg e]
          by_cases e2 : j = k
          · subst e2
            have : ¬ j = q.1 := fun z => e z.symm
            rw [if_neg e, if_pos rfl, if_pos rfl]
            by_cases hm : j ∈ kv.map (·.1)
            · rw [if_pos hm, if_pos (List.mem_cons_of_mem _ hm)]
            · rw [if_neg hm, if_neg (fun z => (List.mem_cons.mp z).elim this hm)]
          · simp [e2]
    rw [main]
    obtain ⟨q, h1, h2⟩ := List.any_eq_true.mp h
    have : k ∈ kv.map (·.1) := List.mem_map.mpr ⟨q, h1, of_decide_eq_true h2⟩
    rw [if_pos this]
  · rw [if_neg h]
    have hk : k ∉ kv.map (·.1) := fun z => by
      obtain ⟨q, h1, h2⟩ := List.mem_map.mp z
      exact h (List.any_eq_true.mpr ⟨q, h1, by simp [h2]⟩)
    clear h
    induction kv with
    | nil =>
      rw [List.nil_append, klook_cons, klook_nil]
      by_cases e : j = k
      · simp [e]
      · have : ¬ k = j := fun z => e z.symm
        simp [e, this]
    | cons q kv ih =>
      rw [List.map_cons, List.mem_cons, not_or] at hk
      rw [List.cons_append, klook_cons, ih hk.2, klook_cons]
      by_cases e : q.1 = j
      · have : ¬ j = k := fun z => hk.1 (z.symm.trans e.symm)
        simp [e, this]
      · simp [e]
end
section
variable {κ α : Type} [DecidableEq κ] [PyKey κ] [Py α] {K : Fg} {H : Hp} {ks : List (Key × V)} {kv : List (κ × α)}
theorem key_eq {a b : κ} : (PyKey.key a : Key) = PyKey.key b ↔ a = b := ⟨fun h => PyKey.inj h, fun h => by rw [h]⟩
theorem KReps.any (r : KReps K H ks kv) (k : κ) : (ks.any fun q => decide (q.1 = PyKey.key k)) = kv.any fun q => decide (q.1 = k) := by
  induction r with
  | nil => rfl
  | cons a b ih =>
    rw [List.any_cons, List.any_cons, ih, a.1]
    congr 1
    exact decide_eq_decide.mpr key_eq
theorem KReps.put {v : V} {x : α} (r : KReps K H ks kv) (k : κ) (rv : rep K H v x) : KReps K H (putK ks (PyKey.key k) v) (kput kv k x) := by
  unfold putK kput
  rw [r.any k]
  split
  · rename_i hx
    clear hx
    induction r with
    | nil => exact .nil
    | @cons a b l1 l2 h t ih =>
      rw [List.map_cons, List.map_cons]
      refine .cons ?_ ih
      by_cases e : b.1 = k
      · have : a.1 = PyKey.key k := by rw [h.1, e]
        rw [if_pos e, if_pos this]
        exact ⟨h.1, rv⟩
      · have : ¬ a.1 = PyKey.key k := fun z => e (PyKey.inj (h.1.symm.trans z))
        rw [if_neg e, if_neg this]
        exact h
  · exact Paired.snoc r ⟨rfl, rv⟩
theorem KReps.none (r : KReps K H ks kv) {k : κ} (h : klook kv k = none) : valV ks (PyKey.key k) = none := by
  induction r with
  | nil => rfl
  | @cons a b l1 l2 hh t ih =>
    rw [klook_cons] at h
    by_cases e : b.1 = k
    · rw [if_pos e] at h; cases h
    · rw [if_neg e] at h
      rw [valV_neg (fun z => e (PyKey.inj (hh.1.symm.trans z)))]
      exact ih h
theorem KReps.some (r : KReps K H ks kv) {k : κ} {x : α} (h : klook kv k = some x) : ∃ v, valV ks (PyKey.key k) = some v ∧ rep K H v x := by
  induction r with
  | nil => simp [klook_nil] at h
  | @cons a b l1 l2 hh t ih =>
    rw [klook_cons] at h
    by_cases e : b.1 = k
    · rw [if_pos e] at h
      cases h
      exact ⟨a.2, valV_pos (by rw [hh.1, e]), hh.2⟩
    · rw [if_neg e] at h
      obtain ⟨v, h1, h2⟩ := ih h
      exact ⟨v, by rw [valV_neg (fun z => e (PyKey.inj (hh.1.symm.trans z)))]; exact h1, h2⟩
theorem KReps.drop (r : KReps K H ks kv) (k : κ) : KReps K H (dropK ks (PyKey.key k)) (kdrop kv k) := by
  unfold dropK kdrop
  induction r with
  | nil => exact .nil
  | @cons a b l1 l2 hh t ih =>
    rw [List.filter_cons, List.filter_cons]
    by_cases e : b.1 = k
    · have : a.1 = PyKey.key k := by rw [hh.1, e]
      simp only [e, this, ne_eq, not_true_eq_false, decide_false, Bool.false_eq_true, if_false]
      exact ih
    · have : ¬ a.1 = PyKey.key k := fun z => e (PyKey.inj (hh.1.symm.trans z))
      simp only [e, this, ne_eq, not_false_eq_true, decide_true, if_true]
      exact .cons hh ih
end
/-- what stands at p shall stay -/
def Wd.fix (W : Wd) (p : Addr) (o : HO) (h : W.H p = some o) : Wd := ⟨upd W.B p o, W.H, fun a u e => by
  by_cases q : a = p
  · subst q; rw [upd_same] at e; cases e; exact .inl h
  · rw [upd_ne q] at e; exact W.sub a u e⟩
theorem md_fix {S : List Addr} {W W' : Wd} (g : Md S W W') {p : Addr} {o : HO} (h : W'.H p = some o) (n : W'.B p = none) (f : W.H p = none) : Md S W (W'.fix p o h) := by
  refine ⟨fun a u e => ?_, fun a u e1 e2 => g.l a u e1 e2, g.o, fun a ha => ?_, g.d, g.n⟩
  · have q : a ≠ p := fun z => by rw [z] at e; rw [W.free f] at e; cases e
    show upd W'.B p o a = some u
    rw [upd_ne q]; exact g.b a u e
  · have q : a ≠ p := fun z => ha.ne (by rw [z]; exact f)
    show upd W'.B p o a = W.B a
    rw [upd_ne q]; exact g.m a ha
theorem ex_fix {W : Wd} {p : Addr} {o : HO} (h : W.H p = some o) (n : W.B p = none) : Ex W.B (W.fix p o h).B := fun a u e => by
  have q : a ≠ p := fun z => by rw [z, n] at e; cases e
  show upd W.B p o a = some u
  rw [upd_ne q]; exact e
theorem md_mut {S : List Addr} {W W' : Wd} (g : Md S W W') {p : Addr} {o : HO} (n : W'.B p = none) (f : W.H p = none) : Md S W (W'.put p o n) := by
  refine ⟨g.b, fun a u e1 e2 => ?_, fun a u e1 e2 => ?_, g.m, fun a ha => ?_, fun a ha => ?_⟩
  · have q : a ≠ p := fun z => by rw [z, f] at e2; cases e2
    show upd W'.H p o a = some u
    rw [upd_ne q]; exact g.l a u e1 e2
  · have q : a ≠ p := fun z => by rw [z, f] at e2; cases e2
    show upd W'.H p o a = some u
    rw [upd_ne q]; exact g.o a u e1 e2
  · show upd W'.H p o a ≠ none
    by_cases q : a = p
    · rw [q, upd_same]; exact fun z => by cases z
    · rw [upd_ne q]; exact g.d a ha
  · have q : a ≠ p := fun z => ha.ne (by rw [z]; exact f)
    obtain ⟨u, e, hu⟩ := g.n a ha
    exact ⟨u, (upd_ne q).trans e, hu⟩
/-- what I tells stays where only p, which is none of S, changes -/
theorem i_put {ε : Ef} {W : Wd} {p : Addr} {o : HO} (hS : p ∉ ε.S) (i : ε.I W) (n : W.B p = none) : ε.I (W.put p o n) :=
  ε.mv W _ (Evl.Ex.refl _) (fun a h1 _ => ⟨upd_ne fun e => hS (e ▸ h1), rfl⟩) i
theorem i_fix {ε : Ef} {W : Wd} {p : Addr} {o : HO} (hS : p ∉ ε.S) (i : ε.I W) (h : W.H p = some o) (n : W.B p = none) : ε.I (W.fix p o h) :=
  ε.mv W _ (ex_fix h n) (fun a h1 _ => ⟨rfl, upd_ne fun e => hS (e ▸ h1)⟩) i


/-! ### expressions -/
/-- a value of which P is known -/
def EvP (ε : Ef) (te : TE) (σ : SS) (W : Wd) (P : V → Wd → Prop) : Prop := ∀ W1, Stp ε W W1 → ∀ Q : VK, (∀ v W2, Stp ε W1 W2 → P v W2 → Q v W2.H) → te σ W1.H Q
def EvR {α : Type} [Py α] (ε : Ef) (K : Fg) (te : TE) (σ : SS) (W : Wd) (x : α) : Prop :=
  ∀ W1, Stp ε W W1 → ∀ Q : VK, (∀ v W2, Stp ε W1 W2 → rep K W2.B v x → Q v W2.H) → te σ W1.H Q
/-- a dict that is not locked -/
def EvD {κ α : Type} [PyKey κ] [Py α] (ε : Ef) (K : Fg) (te : TE) (σ : SS) (W : Wd) (d : Dict κ α) : Prop :=
  ∀ W1, Stp ε W W1 → ∀ Q : VK, (∀ v W2, Stp ε W1 W2 → DictAt K W2 v d → Q v W2.H) → te σ W1.H Q
def EvT (ε : Ef) (tt : TT) (σ : SS) (W : Wd) (b : Bool) : Prop :=
  ∀ W1, Stp ε W W1 → ∀ Q : Bool → Hp → Prop, (∀ W2, Stp ε W1 W2 → Q b W2.H) → tt σ W1.H Q
def EvAs {α : Type} [Py α] (ε : Ef) (K : Fg) (ta : TA) (σ : SS) (W : Wd) (xs : List α) : Prop :=
  ∀ W1, Stp ε W W1 → ∀ Q : List V → Hp → Prop, (∀ vs W2, Stp ε W1 W2 → Reps K W2.B vs xs → Q vs W2.H) → ta σ W1.H Q
def EvO (ε : Ef) (to : TO) (σ : SS) (W : Wd) (o : Option Int) : Prop := ∀ W1, Stp ε W W1 → ∀ Q : Option Int → Hp → Prop, (∀ W2, Stp ε W1 W2 → Q o W2.H) → to σ W1.H Q
/-- an operation on values, at any later world -/
def RO {α β γ : Type} [Py α] [Py β] [Py γ] (K : Fg) (r : R2) (x : α) (y : β) (z : γ) : Prop :=
  ∀ v u W1, rep K W1.B v x → rep K W1.B u y → ∀ Q : VK, (∀ w W2, Grow W1 W2 → rep K W2.B w z → Q w W2.H) → r v u W1.H Q
def RU {α β : Type} [Py α] [Py β] (K : Fg) (r : V → Hp → VK → Prop) (x : α) (y : β) : Prop :=
  ∀ v W1, rep K W1.B v x → ∀ Q : VK, (∀ w W2, Grow W1 W2 → rep K W2.B w y → Q w W2.H) → r v W1.H Q
def RC1 {α β : Type} [Py α] [Py β] (K : Fg) (r : List V → Hp → VK → Prop) (x : α) (y : β) : Prop :=
  ∀ v W1, rep K W1.B v x → ∀ Q : VK, (∀ w W2, Grow W1 W2 → rep K W2.B w y → Q w W2.H) → r [v] W1.H Q
def RC2 {α β γ : Type} [Py α] [Py β] [Py γ] (K : Fg) (r : List V → Hp → VK → Prop) (x : α) (y : β) (z : γ) : Prop :=
  ∀ v u W1, rep K W1.B v x → rep K W1.B u y → ∀ Q : VK, (∀ w W2, Grow W1 W2 → rep K W2.B w z → Q w W2.H) → r [v, u] W1.H Q
section
variable {α β γ : Type} [Py α] [Py β] [Py γ] {K : Fg} {σ : SS} {W W' : Wd} {v : V} {x : α} {y : β} {z : γ} {ta tb te : TE} {r : R2} {t u : TT} {ε : Ef}
theorem EvR.p (h : EvR ε K te σ W x) : EvP ε te σ W (fun v W => rep K W.B v x) := h
theorem EvP.toR (h : EvP ε te σ W (fun v W => rep K W.B v x)) : EvR ε K te σ W x := h
theorem EvR.s (g : Stp ε W W') (h : EvR ε K te σ W x) : EvR ε K te σ W' x := fun W1 g1 => h W1 (g.trans g1)
theorem EvT.s {b : Bool} (g : Stp ε W W') (h : EvT ε t σ W b) : EvT ε t σ W' b := fun W1 g1 => h W1 (g.trans g1)
theorem EvR.is {x' : α} (h : EvR ε K te σ W x) (e : x = x') : EvR ε K te σ W x' := e ▸ h
theorem EvT.is {b b' : Bool} (h : EvT ε t σ W b) (e : b = b') : EvT ε t σ W b' := e ▸ h
theorem EvD.rep {κ : Type} [PyKey κ] {d : Dict κ α} (h : EvD ε K te σ W d) : EvR ε K te σ W d := fun W1 g1 Q k => h W1 g1 Q fun v W2 g2 r => k v W2 g2 r.rep
/-- what leaves the heap as it is, whatever the effect around -/
theorem ev_pure (h : ∀ W1, On W W1 → EvR pur K te σ W1 x) : EvR ε K te σ W x := fun W1 g1 Q k => h W1 g1.on W1 (.start trivial) Q fun v W2 g2 r => k v W2 (g1.rf.and g2.pure) r
theorem ev_pureD {κ : Type} [PyKey κ] {d : Dict κ α} (h : ∀ W1, On W W1 → EvD pur K te σ W1 d) : EvD ε K te σ W d := fun W1 g1 Q k => h W1 g1.on W1 (.start trivial) Q fun v W2 g2 r => k v W2 (g1.rf.and g2.pure) r
theorem et_pure {b : Bool} (h : ∀ W1, On W W1 → EvT pur t σ W1 b) : EvT ε t σ W b := fun W1 g1 Q k => h W1 g1.on W1 (.start trivial) Q fun W2 g2 => k W2 (g1.rf.and g2.pure)
theorem ev_var {i : Nat} (h : σ[i]? = some (some v)) (r : rep K W.B v x) : EvR ε K (tVar i) σ W x := fun W1 g1 Q k => ⟨v, h, k v W1 g1.rf (rep_s g1 r)⟩
theorem ev_dvar {κ : Type} [PyKey κ] {d : Dict κ α} {i : Nat} (h : σ[i]? = some (some v)) (r : DictAt K W v d) : EvD ε K (tVar i) σ W d := fun W1 g1 Q k => ⟨v, h, k v W1 g1.rf (r.s g1)⟩
theorem ev_int {n : Int} : EvR ε K (tC (.int n)) σ W n := fun W1 g1 Q k => k _ W1 g1.rf rfl
theorem ev_bl {n : Bool} : EvR ε K (tC (.bl n)) σ W n := fun W1 g1 Q k => k _ W1 g1.rf rfl
theorem ev_str {n : Str} : EvR ε K (tC (.str n)) σ W n := fun W1 g1 Q k => k _ W1 g1.rf rfl
theorem ev_non : EvR ε K (tC .non) σ W () := fun W1 g1 Q k => k _ W1 g1.rf rfl
theorem ev_raw {n : V} : EvR ε K (tC n) σ W (Raw.mk n) := fun W1 g1 Q k => k _ W1 g1.rf rfl
theorem ev_rvar {i : Nat} (h : σ[i]? = some (some v)) : EvR ε K (tVar i) σ W (Raw.mk v) := fun W1 g1 Q k => ⟨v, h, k v W1 g1.rf rfl⟩
theorem ev_op (ha : EvR ε K ta σ W x) (hb : EvR ε K tb σ W y) (hr : RO K r x y z) : EvR ε K (tOp r ta tb) σ W z := fun W1 g1 Q k =>
  ha W1 g1 _ fun a W2 g2 ra => hb W2 (g1.trans g2) _ fun b W3 g3 rb => hr a b W3 (rep_s g3 ra) rb Q fun w W4 g4 rw' => k w W4 ((g2.trans g3).and g4) rw'
theorem ev_un {r : V → Hp → VK → Prop} (ha : EvR ε K ta σ W x) (hr : RU K r x y) : EvR ε K (tUn r ta) σ W y := fun W1 g1 Q k =>
  ha W1 g1 _ fun a W2 g2 ra => hr a W2 ra Q fun w W4 g4 rw' => k w W4 (g2.and g4) rw'
theorem ev_cb1 {r : List V → Hp → VK → Prop} (ha : EvR ε K ta σ W x) (hr : RC1 K r x y) : EvR ε K (tCB r (tCons ta tNil)) σ W y := fun W1 g1 Q k =>
  ha W1 g1 _ fun a W2 g2 ra => hr a W2 ra Q fun w W4 g4 rw' => k w W4 (g2.and g4) rw'
theorem ev_cb2 {r : List V → Hp → VK → Prop} (ha : EvR ε K ta σ W x) (hb : EvR ε K tb σ W y) (hr : RC2 K r x y z) : EvR ε K (tCB r (tCons ta (tCons tb tNil))) σ W z := fun W1 g1 Q k =>
  ha W1 g1 _ fun a W2 g2 ra => hb W2 (g1.trans g2) _ fun b W3 g3 rb => hr a b W3 (rep_s g3 ra) rb Q fun w W4 g4 rw' => k w W4 ((g2.trans g3).and g4) rw'
/-- a value that leaves the heap as it is -/
theorem ro_val (f : ∀ (v u : V) (W1 : Wd), rep K W1.B v x → rep K W1.B u y → ∀ Q : VK, (∀ w, rep K W1.B w z → Q w W1.H) → r v u W1.H Q) : RO K r x y z :=
  fun v u W1 rv ru Q k => f v u W1 rv ru Q fun w rw' => k w W1 (.refl _ _) rw'
theorem ro_I0 {g : Int → Int → Int} {i j : Int} : RO K (rI0 fun i j => .int (g i j)) i j (g i j) := ro_val fun _ _ _ rv ru Q k => ⟨i, j, rv, ru, k _ rfl⟩
theorem ro_B0 {g : Int → Int → Bool} {i j : Int} : RO K (rI0 fun i j => .bl (g i j)) i j (g i j) := ro_val fun _ _ _ rv ru Q k => ⟨i, j, rv, ru, k _ rfl⟩
theorem ro_I {C : Int → Int → Prop} {g : Int → Int → Int} {i j : Int} (hc : C i j) : RO K (rI C fun i j => .int (g i j)) i j (g i j) := ro_val fun _ _ _ rv ru Q k => ⟨i, j, rv, ru, hc, k _ rfl⟩
theorem ru_neg {i : Int} : RU K (rU fun i => .int (-i)) i (-i) := fun v W1 rv Q k => ⟨i, rv, k _ W1 (.refl _ _) rfl⟩
theorem ro_eqI {i j : Int} : RO K rEq i j (decide (i = j)) := ro_val fun v u _ rv ru Q k => by
  have e1 : v = .int i := rv
  have e2 : u = .int j := ru
  subst e1; subst e2
  refine ⟨rfl, k _ ?_⟩
  show V.bl _ = V.bl _
  congr 1
  simp
theorem ro_neI {i j : Int} : RO K rNe i j (!decide (i = j)) := ro_val fun v u _ rv ru Q k => by
  have e1 : v = .int i := rv
  have e2 : u = .int j := ru
  subst e1; subst e2
  refine ⟨rfl, k _ ?_⟩
  show V.bl _ = V.bl _
  congr 1
  simp
theorem ro_eqS {i j : Str} : RO K rEq i j (decide (i = j)) := ro_val fun v u _ rv ru Q k => by
  have e1 : v = .str i := rv
  have e2 : u = .str j := ru
  subst e1; subst e2
  refine ⟨rfl, k _ ?_⟩
  show V.bl _ = V.bl _
  congr 1
  simp
theorem ro_neS {i j : Str} : RO K rNe i j (!decide (i = j)) := ro_val fun v u _ rv ru Q k => by
  have e1 : v = .str i := rv
  have e2 : u = .str j := ru
  subst e1; subst e2
  refine ⟨rfl, k _ ?_⟩
  show V.bl _ = V.bl _
  congr 1
  simp
theorem ro_eqB {i j : Bool} : RO K rEq i j (decide (i = j)) := ro_val fun v u _ rv ru Q k => by
  have e1 : v = .bl i := rv
  have e2 : u = .bl j := ru
  subst e1; subst e2
  refine ⟨rfl, k _ ?_⟩
  show V.bl _ = V.bl _
  congr 1
  simp
theorem ro_neB {i j : Bool} : RO K rNe i j (!decide (i = j)) := ro_val fun v u _ rv ru Q k => by
  have e1 : v = .bl i := rv
  have e2 : u = .bl j := ru
  subst e1; subst e2
  refine ⟨rfl, k _ ?_⟩
  show V.bl _ = V.bl _
  congr 1
  simp
/-! places -/
theorem atI_ix {ζ : Type} {xs : List ζ} {i : Int} {v : ζ} (h : atI xs i = some v) : ∃ j, ixN xs.length i = some j ∧ xs[j]? = some v := by
  unfold atI at h
  cases e : ixN xs.length i with
  | none => rw [e] at h; cases h
  | some j => rw [e] at h; exact ⟨j, rfl, h⟩
theorem reps_at {vs : List V} {xs : List α} {H : Hp} {i : Int} (h : Reps K H vs xs) (e : atI xs i = some x) : ∃ v, atI vs i = some v ∧ rep K H v x := by
  obtain ⟨j, e1, e2⟩ := atI_ix e
  obtain ⟨v, h1, h2⟩ := Reps.get' h e2
  refine ⟨v, ?_, h2⟩
  unfold atI
  rw [Reps.len h, e1]
  exact h1
theorem ro_ixL {xs : List α} {i : Int} (h : atI xs i = some x) : RO K (rIxL K) xs i x := ro_val fun v u W1 rv ru Q k => by
  obtain ⟨a, vs, e1, s, r⟩ := rv
  have e2 : u = .int i := ru
  subst e1; subst e2
  obtain ⟨w, h1, h2⟩ := reps_at r h
  exact ⟨a, vs, i, w, rfl, rfl, SqL.of (W1.sub.el s), h1, k w h2⟩
theorem ro_ixT {xs : Tup α} {i : Int} (h : atI xs.items i = some x) : RO K (rIxT K) xs i x := ro_val fun v u W1 rv ru Q k => by
  obtain ⟨a, vs, e1, s, r⟩ := rv
  have e2 : u = .int i := ru
  subst e1; subst e2
  obtain ⟨w, h1, h2⟩ := reps_at r h
  exact ⟨a, vs, i, w, rfl, rfl, SqT.of (W1.sub.et s), h1, k w h2⟩
theorem ro_ixP0 {p : α × β} : RO K (rIxT K) p (0 : Int) p.1 := ro_val fun v u W1 rv ru Q k => by
  obtain ⟨a, x, y, e1, s, r1, r2⟩ := rv
  have e2 : u = .int 0 := ru
  subst e1; subst e2
  exact ⟨a, _, 0, x, rfl, rfl, SqT.of (W1.sub.et s), rfl, k x r1⟩
theorem ro_ixP1 {p : α × β} : RO K (rIxT K) p (1 : Int) p.2 := ro_val fun v u W1 rv ru Q k => by
  obtain ⟨a, x, y, e1, s, r1, r2⟩ := rv
  have e2 : u = .int 1 := ru
  subst e1; subst e2
  exact ⟨a, _, 1, y, rfl, rfl, SqT.of (W1.sub.et s), rfl, k y r2⟩
theorem ro_eqT [DecidableEq α] [Datum α] [PyD α] {x y : α} (hd : Datum.depth α ≤ 60) : RO K (rEqT K false) x y (decide (x = y)) := ro_val fun v u W1 rv ru Q k => ⟨α, _, _, x, y, PyD.dp (rep_h rv), PyD.dp (rep_h ru), hd, k _ rfl⟩
theorem ro_neT [DecidableEq α] [Datum α] [PyD α] {x y : α} (hd : Datum.depth α ≤ 60) : RO K (rEqT K true) x y (!decide (x = y)) := ro_val fun v u W1 rv ru Q k => ⟨α, _, _, x, y, PyD.dp (rep_h rv), PyD.dp (rep_h ru), hd, k _ rfl⟩
theorem ro_ltT [DecidableEq α] [DatumOrd α] [PyD α] {x y : α} (hd : Datum.depth α ≤ 60) : RO K (rLtT K) x y (DatumOrd.lt x y) := ro_val fun v u W1 rv ru Q k => ⟨α, _, _, x, y, PyD.dp (rep_h rv), PyD.dp (rep_h ru), hd, k _ rfl⟩
theorem ro_inL [DecidableEq α] [Datum α] [PyD α] {x : α} {y : List α} (hd : Datum.depth α ≤ 60) : RO K (rInTL K false) x y (decide (x ∈ y)) := ro_val fun v u W1 rv ru Q k => ⟨α, _, _, x, y, PyD.dp (rep_h rv), PyD.dp (rep_h ru), hd, k _ rfl⟩
theorem ro_ninL [DecidableEq α] [Datum α] [PyD α] {x : α} {y : List α} (hd : Datum.depth α ≤ 60) : RO K (rInTL K true) x y (!decide (x ∈ y)) := ro_val fun v u W1 rv ru Q k => ⟨α, _, _, x, y, PyD.dp (rep_h rv), PyD.dp (rep_h ru), hd, k _ rfl⟩
theorem ro_inT [DecidableEq α] [Datum α] [PyD α] {x : α} {y : Tup α} (hd : Datum.depth α ≤ 60) : RO K (rInTT K false) x y (decide (x ∈ y.items)) := ro_val fun v u W1 rv ru Q k => ⟨α, _, _, x, y, PyD.dp (rep_h rv), PyD.dp (rep_h ru), hd, k _ rfl⟩
theorem ro_ninT [DecidableEq α] [Datum α] [PyD α] {x : α} {y : Tup α} (hd : Datum.depth α ≤ 60) : RO K (rInTT K true) x y (!decide (x ∈ y.items)) := ro_val fun v u W1 rv ru Q k => ⟨α, _, _, x, y, PyD.dp (rep_h rv), PyD.dp (rep_h ru), hd, k _ rfl⟩
/-- a new list that may change -/
def EvN (ε : Ef) (K : Fg) (te : TE) (σ : SS) (W : Wd) (xs : List α) : Prop :=
  ∀ W1, Stp ε W W1 → ∀ Q : VK, (∀ p vs W2, Stp ε W1 W2 → W1.H p = none → W2.B p = none → W2.H p = some (.lst vs) → Reps K W2.B vs xs → Q (.ref p) W2.H) → te σ W1.H Q
theorem Stp.fix {W W' : Wd} (g : Stp ε W W') {p : Addr} {o : HO} (f : W.H p = none) (i : ε.I W) (h : W'.H p = some o) (n : W'.B p = none) : Stp ε W (W'.fix p o h) :=
  ⟨md_fix g.md h n f, i_fix (Ef.off i f) g.i h n⟩
theorem EvN.toR {xs : List α} (h : EvN ε K te σ W xs) : EvR ε K te σ W xs := fun W1 g1 Q k => h W1 g1 Q fun p vs W2 g2 f n e r =>
  k _ (W2.fix p _ e) (g2.fix f g1.i e n) ⟨p, vs, rfl, upd_same, Reps.mono (exExt (ex_fix e n)) r⟩
/-! displays -/
theorem ea_nil : EvAs ε K tNil σ W ([] : List α) := fun W1 g1 Q k => k [] W1 g1.rf .nil
theorem ea_cons {tr : TA} {xs : List α} (h : EvR ε K ta σ W x) (hr : EvAs ε K tr σ W xs) : EvAs ε K (tCons ta tr) σ W (x :: xs) := fun W1 g1 Q k =>
  h W1 g1 _ fun a W2 g2 ra => hr W2 (g1.trans g2) _ fun vs W3 g3 rs => k (a :: vs) W3 (g2.trans g3) (.cons (rep_s g3 ra) rs)
theorem ev_lst {ta : TA} {xs : List α} (h : EvAs ε K ta σ W xs) (hl : xs.length ≤ 100000) : EvR ε K (tLst ta) σ W xs := fun W1 g1 Q k =>
  h W1 g1 _ fun vs W2 g2 rs => ⟨Evl.sz_of (by rw [Reps.len rs]; exact hl), fun p hp => k _ (W2.add p (.lst vs)) (g2.and (W2.grow_add hp)) ⟨p, vs, rfl, upd_same, Reps.mono (exExt (W2.grow_add hp).b) rs⟩⟩
theorem en_lst {ta : TA} {xs : List α} (h : EvAs ε K ta σ W xs) (hl : xs.length ≤ 100000) : EvN ε K (tLst ta) σ W xs := fun W1 g1 Q k =>
  h W1 g1 _ fun vs W2 g2 rs => ⟨Evl.sz_of (by rw [Reps.len rs]; exact hl), fun p hp => k p vs (W2.put p (.lst vs) (W2.free hp)) (g2.and (W2.grow_put hp)) (by
    cases e : W1.H p with
    | none => rfl
    | some o => exact absurd hp (g2.md.d p (by rw [e]; exact fun z => by cases z))) (W2.free hp) upd_same rs⟩
theorem ev_tupN {ta : TA} {xs : List α} (h : EvAs ε K ta σ W xs) (hl : xs.length ≤ 100000) : EvR ε K (tTup ta) σ W (Tup.mk xs) := fun W1 g1 Q k =>
  h W1 g1 _ fun vs W2 g2 rs => ⟨Evl.sz_of (by rw [Reps.len rs]; exact hl), fun p hp => k _ (W2.add p (.tup vs)) (g2.and (W2.grow_add hp)) ⟨p, vs, rfl, upd_same, Reps.mono (exExt (W2.grow_add hp).b) rs⟩⟩
theorem ev_pair (ha : EvR ε K ta σ W x) (hb : EvR ε K tb σ W y) : EvR ε K (tTup (tCons ta (tCons tb tNil))) σ W (x, y) := fun W1 g1 Q k =>
  ha W1 g1 _ fun a W2 g2 ra => hb W2 (g1.trans g2) _ fun b W3 g3 rb => ⟨Evl.sz_of (by show 2 ≤ 100000; decide), fun p hp =>
    k _ (W3.add p (.tup [a, b])) ((g2.trans g3).and (W3.grow_add hp)) ⟨p, a, b, rfl, upd_same, rep_g (W3.grow_add hp) (rep_s g3 ra), rep_g (W3.grow_add hp) rb⟩⟩
theorem ev_t3 {tc : TE} (ha : EvR ε K ta σ W x) (hb : EvR ε K tb σ W y) (hc : EvR ε K tc σ W z) : EvR ε K (tTup (tCons ta (tCons tb (tCons tc tNil)))) σ W (T3.mk x y z) := fun W1 g1 Q k =>
  ha W1 g1 _ fun a W2 g2 ra => hb W2 (g1.trans g2) _ fun b W3 g3 rb => hc W3 ((g1.trans g2).trans g3) _ fun c W4 g4 rc => ⟨Evl.sz_of (by show 3 ≤ 100000; decide), fun p hp =>
    k _ (W4.add p (.tup [a, b, c])) (((g2.trans g3).trans g4).and (W4.grow_add hp)) ⟨p, a, b, c, rfl, upd_same, rep_g (W4.grow_add hp) (rep_s g4 (rep_s g3 ra)), rep_g (W4.grow_add hp) (rep_s g4 rb), rep_g (W4.grow_add hp) rc⟩⟩
/-! tests -/
theorem et_test {b : Bool} (h : EvR ε K te σ W b) : EvT ε (tTest te) σ W b := fun W1 g1 Q k => h W1 g1 _ fun v W2 g2 r => ⟨b, r, k W2 g2⟩
theorem et_B {b : Bool} (h : EvR ε K te σ W b) : EvT ε (tB te) σ W b := fun W1 g1 Q k => h W1 g1 _ fun v W2 g2 r => ⟨b, r, k W2 g2⟩
theorem et_and {a b : Bool} (h1 : EvT ε t σ W a) (h2 : a = true → EvT ε u σ W b) : EvT ε (tAnd t u) σ W (a && b) := fun W1 g1 Q k => h1 W1 g1 _ fun W2 g2 => by
  cases a with
  | false => exact k W2 g2
  | true => exact h2 rfl W2 (g1.trans g2) _ fun W3 g3 => k W3 (g2.trans g3)
theorem et_or {a b : Bool} (h1 : EvT ε t σ W a) (h2 : a = false → EvT ε u σ W b) : EvT ε (tOr t u) σ W (a || b) := fun W1 g1 Q k => h1 W1 g1 _ fun W2 g2 => by
  cases a with
  | true => exact k W2 g2
  | false => exact h2 rfl W2 (g1.trans g2) _ fun W3 g3 => k W3 (g2.trans g3)
theorem et_not {a : Bool} (h1 : EvT ε t σ W a) : EvT ε (tNot t) σ W (!a) := fun W1 g1 Q k => h1 W1 g1 _ fun W2 g2 => k W2 g2
theorem ev_andV {a b : Bool} (h1 : EvR ε K ta σ W a) (h2 : a = true → EvR ε K tb σ W b) : EvR ε K (tAndV ta tb) σ W (a && b) := fun W1 g1 Q k => h1 W1 g1 _ fun v W2 g2 r => ⟨a, r, by
  cases a with
  | false => exact k _ W2 g2 rfl
  | true => exact h2 rfl W2 (g1.trans g2) _ fun v W3 g3 r => k v W3 (g2.trans g3) r⟩
theorem ev_orV {a b : Bool} (h1 : EvR ε K ta σ W a) (h2 : a = false → EvR ε K tb σ W b) : EvR ε K (tOrV ta tb) σ W (a || b) := fun W1 g1 Q k => h1 W1 g1 _ fun v W2 g2 r => ⟨a, r, by
  cases a with
  | true => exact k _ W2 g2 rfl
  | false => exact h2 rfl W2 (g1.trans g2) _ fun v W3 g3 r => k v W3 (g2.trans g3) r⟩
theorem ev_notV {a : Bool} (h1 : EvR ε K ta σ W a) : EvR ε K (tNotV ta) σ W (!a) := fun W1 g1 Q k => h1 W1 g1 _ fun v W2 g2 r => ⟨a, r, k _ W2 g2 rfl⟩
theorem ev_if {b : Bool} {x' : α} (h : EvT ε t σ W b) (h1 : b = true → EvR ε K ta σ W x) (h2 : b = false → EvR ε K tb σ W x') : EvR ε K (tIf t ta tb) σ W (if b then x else x') := fun W1 g1 Q k => h W1 g1 _ fun W2 g2 => by
  cases b with
  | true => exact h1 rfl W2 (g1.trans g2) _ fun v W3 g3 r => k v W3 (g2.trans g3) r
  | false => exact h2 rfl W2 (g1.trans g2) _ fun v W3 g3 r => k v W3 (g2.trans g3) r
/-! calls of built-ins -/
def rMin2 : List V → Hp → VK → Prop := fun xs H Q => ∃ i j, xs = [.int i, .int j] ∧ Q (.int (if j < i then j else i)) H
def rMax2 : List V → Hp → VK → Prop := fun xs H Q => ∃ i j, xs = [.int i, .int j] ∧ Q (.int (if j > i then j else i)) H
def rAbs : List V → Hp → VK → Prop := fun xs H Q => ∃ i, xs = [.int i] ∧ Q (.int (if i < 0 then -i else i)) H
def rLen (K : Fg) : List V → Hp → VK → Prop := fun xs H Q => ∃ p ys, xs = [.ref p] ∧ (SqL K H p ys ∨ SqT K H p ys) ∧ Q (.int ys.length) H
def rLenS : List V → Hp → VK → Prop := fun xs H Q => ∃ z, xs = [.str z] ∧ z.length ≤ sizeLine ∧ Q (.int z.length) H
def rListO (K : Fg) : List V → Hp → VK → Prop := fun xs H Q => ∃ p ys, xs = [.ref p] ∧ (SqL K H p ys ∨ SqT K H p ys) ∧ ∀ l, H l = none → Q (.ref l) (upd H l (.lst ys))
def rDictC : List V → Hp → VK → Prop := fun xs H Q => ∃ a kvs, xs = [.ref a] ∧ Rd H a (.dK kvs) ∧ ∀ p, H p = none → Q (.ref p) (upd H p (.dK kvs))
section
variable {X : Cx}
theorem cr_min2 (hc : X.calm = true) : CallR X (.builtin "min") rMin2 := call_min2 hc
theorem cr_max2 (hc : X.calm = true) : CallR X (.builtin "max") rMax2 := call_max2 hc
theorem cr_abs : CallR X (.builtin "abs") rAbs := call_abs
theorem cr_len : CallR X (.builtin "len") (rLen X.K) := call_len_seq
theorem cr_lenS : CallR X (.builtin "len") rLenS := call_len_str
theorem cr_listO : CallR X (.type "list") (rListO X.K) := call_list_of
theorem cr_dictC : CallR X (.type "dict") rDictC := by
  intro pins s σ H xs us Q I r h
  obtain ⟨a, kvs, rfl, rd, k⟩ := h
  cases r with
  | cons r rr =>
    cases rr
    cases r
    exact d_copyOf I rd fun p s' hp I' => ⟨.ref p, _, I', rfl, k p hp⟩
end
theorem rc_min2 {i j : Int} : RC2 K rMin2 i j (if j < i then j else i) := fun v u W1 rv ru Q k => ⟨i, j, by rw [show v = _ from rv, show u = _ from ru], k _ W1 (.refl _ _) rfl⟩
theorem rc_max2 {i j : Int} : RC2 K rMax2 i j (if j > i then j else i) := fun v u W1 rv ru Q k => ⟨i, j, by rw [show v = _ from rv, show u = _ from ru], k _ W1 (.refl _ _) rfl⟩
theorem rc_abs {i : Int} : RC1 K rAbs i (if i < 0 then -i else i) := fun v W1 rv Q k => ⟨i, by rw [show v = _ from rv], k _ W1 (.refl _ _) rfl⟩
theorem rc_len {xs : List α} : RC1 K (rLen K) xs (xs.length : Int) := fun v W1 ⟨a, vs, e, s, r⟩ Q k => ⟨a, vs, by rw [e], .inl (SqL.of (W1.sub.el s)), by
  rw [Reps.len r]; exact k _ W1 (.refl _ _) rfl⟩
theorem rc_lenT {xs : Tup α} : RC1 K (rLen K) xs (xs.items.length : Int) := fun v W1 ⟨a, vs, e, s, r⟩ Q k => ⟨a, vs, by rw [e], .inr (SqT.of (W1.sub.et s)), by
  rw [Reps.len r]; exact k _ W1 (.refl _ _) rfl⟩
theorem rc_lenS {x : Str} (h : x.length ≤ 100000) : RC1 K rLenS x (x.length : Int) := fun v W1 e Q k => ⟨x, by rw [show v = _ from e], Evl.sz_of h, k _ W1 (.refl _ _) rfl⟩
theorem rc_list {xs : List α} : RC1 K (rListO K) xs xs := fun v W1 ⟨a, vs, e, s, r⟩ Q k => ⟨a, vs, by rw [e], .inl (SqL.of (W1.sub.el s)), fun l hl =>
  k _ (W1.add l (.lst vs)) (W1.grow_add hl) ⟨l, vs, rfl, upd_same, Reps.mono (exExt (W1.grow_add hl).b) r⟩⟩
theorem rc_listT {xs : Tup α} : RC1 K (rListO K) xs xs.items := fun v W1 ⟨a, vs, e, s, r⟩ Q k => ⟨a, vs, by rw [e], .inr (SqT.of (W1.sub.et s)), fun l hl =>
  k _ (W1.add l (.lst vs)) (W1.grow_add hl) ⟨l, vs, rfl, upd_same, Reps.mono (exExt (W1.grow_add hl).b) r⟩⟩
theorem rc_sum {xs : List Int} : RC1 K (rSum K) xs xs.sum := fun v W1 ⟨a, vs, e, s, r⟩ Q k => ⟨a, xs, by rw [e], by rw [← reps_int r]; exact SqL.of (W1.sub.el s), k _ W1 (.refl _ _) rfl⟩
/-- sorted: whatever stands in order with the same items -/
theorem rc_sortedI {xs ys : List Int} (hp : ys.Perm xs) (ho : ys.Pairwise (· ≤ ·)) : RC1 K (rSortedI K) xs ys := fun v W1 ⟨a, vs, e, s, r⟩ Q k => ⟨a, xs, by rw [e], by rw [← reps_int r]; exact SqL.of (W1.sub.el s), fun ns' p h1 h2 hp0 => by
  have e2 : ns' = ys := (h1.trans hp.symm).eq_of_pairwise (fun a b _ _ h h' => Int.le_antisymm h h') h2 ho
  subst e2
  exact k _ (W1.add p _) (W1.grow_add hp0) ⟨p, _, rfl, upd_same, int_reps _⟩⟩
theorem rc_all {xs : List Bool} : RC1 K (rAll K) xs (xs.all id) := fun v W1 ⟨a, vs, e, s, r⟩ Q k => ⟨a, xs, by rw [e], by rw [← reps_bl r]; exact SqL.of (W1.sub.el s), k _ W1 (.refl _ _) rfl⟩
theorem rc_any {xs : List Bool} : RC1 K (rAny K) xs (xs.any id) := fun v W1 ⟨a, vs, e, s, r⟩ Q k => ⟨a, xs, by rw [e], by rw [← reps_bl r]; exact SqL.of (W1.sub.el s), k _ W1 (.refl _ _) rfl⟩
/-- isinstance of one built-in class -/
theorem rc_isi {c a : String} {b : Bool} (ht : ∀ (W1 : Wd) v, rep K W1.B v x → TyX K W1.H v (.type a)) (hk : kitB a c = some b) : RC2 K (rIsi K) x (Raw.mk (.ty c)) b := fun v u W1 rv ru Q k =>
  ⟨v, u, .type a, .type c, b, by rw [show u = _ from ru], by rw [show u = _ from ru]; exact .ty c, ht W1 v rv, kit_ty hk, k _ W1 (.refl _ _) rfl⟩
theorem ty_int {i : Int} (W1 : Wd) (v : V) (h : rep K W1.B v i) : TyX K W1.H v (.type "int") := by rw [show v = _ from h]; exact .base (.int i)
theorem ty_str {i : Str} (W1 : Wd) (v : V) (h : rep K W1.B v i) : TyX K W1.H v (.type "str") := by rw [show v = _ from h]; exact .base (.str i)
theorem ty_bl {i : Bool} (W1 : Wd) (v : V) (h : rep K W1.B v i) : TyX K W1.H v (.type "bool") := by rw [show v = _ from h]; exact .base (.bl i)
theorem ty_non (W1 : Wd) (v : V) (h : rep K W1.B v ()) : TyX K W1.H v (.type "NoneType") := by rw [show v = _ from h]; exact .base .non
/-- {} -/
theorem ed_new {κ : Type} [PyKey κ] : EvD ε K tDNewK σ W (⟨[]⟩ : Dict κ α) := fun W1 g1 Q k p hp => k _ (W1.add p (.dK [])) (g1.rf.and (W1.grow_add hp)) ⟨p, [], rfl, upd_same, upd_same, .nil⟩
/-- dict(d) -/
theorem ed_copy {κ : Type} [PyKey κ] {d : Dict κ α} (h : EvR ε K te σ W d) : EvD ε K (tCB rDictC (tCons te tNil)) σ W d := fun W1 g1 Q k => h W1 g1 _ fun v W2 g2 ⟨a, ks, e, rd, r⟩ =>
  ⟨a, ks, by rw [e], W2.sub.rd rd, fun p hp => k _ (W2.add p (.dK ks)) (g2.and (W2.grow_add hp)) ⟨p, ks, rfl, upd_same, upd_same, KReps.mono (exExt (W2.grow_add hp).b) r⟩⟩
/-- list(d.items()) of an unlocked dict -/
theorem ev_listItems {κ : Type} [PyKV κ] {d : Dict κ α} (h : EvD ε K te σ W d) : EvR ε K (LiI.tListItems te) σ W d.kv := fun W1 g1 Q k => h W1 g1 _ fun v W2 g2 ⟨a, ks, e, hB, hH, r⟩ => by
  refine ⟨a, ks, e, hH, fun H' p ts hx hp hts hpt hl hpr => ?_⟩
  -- the new world
  let B' : Hp := fun b => match W2.B b with
    | some o => some o
    | none => if b = p then H' p else if b ∈ ts then H' b else none
  have hB' : ∀ b o, W2.B b = some o → B' b = some o := fun b o q => by show (match W2.B b with | some o => some o | none => _) = some o; rw [q]
  have hnew : ∀ b, W2.H b = none → B' b = (if b = p then H' p else if b ∈ ts then H' b else none) := fun b q => by
    show (match W2.B b with | some o => some o | none => _) = _
    rw [W2.free q]
  have sub : Ext B' H' := fun b o q => by
    cases e2 : W2.B b with
    | some o' =>
      have : B' b = some o' := hB' b o' e2
      rw [this] at q; cases q
      rcases W2.sub b o e2 with h1 | ⟨h0, ob, h1⟩
      · exact .inl (hx b o h1)
      · exact .inr ⟨h0, ob, hx b _ h1⟩
    | none =>
      have : B' b = (if b = p then H' p else if b ∈ ts then H' b else none) := by
        show (match W2.B b with | some o => some o | none => _) = _
        rw [e2]
      rw [this] at q
      by_cases z : b = p
      · rw [if_pos z] at q; rw [z]; exact .inl q
      · rw [if_neg z] at q
        by_cases z2 : b ∈ ts
        · rw [if_pos z2] at q; exact .inl q
        · rw [if_neg z2] at q; cases q
  let W3 : Wd := ⟨B', H', sub⟩
  have gr : Grow W2 W3 := .mk hB' hx fun b hb => by
    show B' b = W2.B b
    cases e2 : W2.B b with
    | some o' => exact hB' b o' e2
    | none =>
      have : B' b = (if b = p then H' p else if b ∈ ts then H' b else none) := by
        show (match W2.B b with | some o => some o | none => _) = _
        rw [e2]
      rw [this, if_neg (fun z => hb.ne (by rw [z]; exact hp)), if_neg (fun z => hb.ne (hts b z))]
  refine k _ W3 (g2.and gr) ⟨p, ts.map V.ref, rfl, by show B' p = _; rw [hnew p hp, if_pos rfl]; exact hl, ?_⟩
  have r3 : KReps K W3.B ks d.kv := KReps.mono (exExt gr.b) r
  clear k
  have hts' : ∀ t ∈ ts, B' t = H' t := fun t ht => by
    rw [hnew t (hts t ht), if_neg (fun z => hpt (by rw [← z]; exact ht)), if_pos ht]
  have main : ∀ (ts : List Addr) (ks : List (Key × V)) (kv : List (κ × α)), (∀ t ∈ ts, B' t = H' t) → Paired (fun (t : Addr) (q : Key × V) => H' t = some (.tup [kV q.1, q.2])) ts ks → KReps K B' ks kv → Reps K B' (ts.map V.ref) kv := by
    intro ts
    induction ts with
    | nil => intro ks kv _ a b; cases a; cases b; exact .nil
    | cons t ts ih =>
      intro ks kv h a b
      cases a with
      | cons a1 a2 =>
        cases b with
        | cons b1 b2 =>
          refine .cons ⟨t, _, _, rfl, (h t List.mem_cons_self).trans a1, ?_, b1.2⟩ (ih _ _ (fun t' ht' => h t' (List.mem_cons_of_mem _ ht')) a2 b2)
          rw [b1.1]
          exact PyKV.krep _ _ _
  exact main ts ks d.kv hts' hpr r3
/-! slices -/
def cutL (xs : List α) (lo hi : Option Int) : List α := (xs.drop (HT.sIx xs.length 0 lo)).take (HT.sIx xs.length xs.length hi - HT.sIx xs.length 0 lo)
theorem eo_none : EvO ε tNoPart σ W none := fun W1 g1 Q k => k W1 g1.rf
theorem eo_some {i : Int} (h : EvR ε K te σ W i) : EvO ε (tPart te) σ W (some i) := fun W1 g1 Q k => h W1 g1 _ fun v W2 g2 r => ⟨i, r, k W2 g2⟩
theorem ev_slL {tl th : TO} {xs : List α} {lo hi : Option Int} (h : EvR ε K te σ W xs) (h1 : EvO ε tl σ W lo) (h2 : EvO ε th σ W hi) : EvR ε K (tSl (rSlL K) te tl th) σ W (cutL xs lo hi) := fun W1 g1 Q k =>
  h W1 g1 _ fun v W2 g2 rx => h1 W2 (g1.trans g2) _ fun W3 g3 => h2 W3 ((g1.trans g2).trans g3) _ fun W4 g4 => by
    obtain ⟨a, vs, e, s, r⟩ := rep_s g4 (rep_s g3 rx)
    refine ⟨a, vs, e, SqL.of (W4.sub.el s), fun p hp => k _ (W4.add p _) (((g2.trans g3).trans g4).and (W4.grow_add hp)) ⟨p, _, rfl, upd_same, Reps.mono (exExt (W4.grow_add hp).b) ?_⟩⟩
    unfold cutV cutL
    rw [Reps.len r]
    exact Reps.take _ (Reps.drop _ r)
theorem ev_revL {xs : List α} (h : EvR ε K te σ W xs) : EvR ε K (tRevL K te) σ W xs.reverse := fun W1 g1 Q k => h W1 g1 _ fun v W2 g2 ⟨a, vs, e, s, r⟩ =>
  ⟨a, vs, e, SqL.of (W2.sub.el s), fun p hp => k _ (W2.add p _) (g2.and (W2.grow_add hp)) ⟨p, _, rfl, upd_same, Reps.mono (exExt (W2.grow_add hp).b) (Reps.rev r)⟩⟩
end

/-! ### what is walked -/
/-- J walks xs in every world that S tells -/
structure Src {α : Type} [Py α] (K : Fg) (J : It) (S : Wd → Prop) (xs : List α) : Prop where
  go : ∀ i W', S W' → i < xs.length → J.go i W'.H
  yld : ∀ i W' v H'', S W' → i < xs.length → J.yld i W'.H v H'' → ∃ x W'', W''.H = H'' ∧ Grow W' W'' ∧ xs[i]? = some x ∧ rep K W''.B v x
  stop : ∀ i W', S W' → xs.length ≤ i → J.stop i W'.H
def EvI {α : Type} [Py α] (ε : Ef) (K : Fg) (wi : TI) (σ : SS) (W : Wd) (xs : List α) : Prop :=
  ∀ W1, Stp ε W W1 → ∀ R : It → Hp → Prop, (∀ J S W2, Stp ε W1 W2 → S W2 → (∀ W W', S W → Stp ε W W' → S W') → Src K J S xs → R J W2.H) → wi σ W1.H R
def EvJ {α : Type} [Py α] (ε : Ef) (K : Fg) (wi : TI) (σ : SS) (W : Wd) (xs : List α) : Prop :=
  ∀ W1, Stp ε W W1 → ∀ R : It → Hp → Prop, (∀ J W2, Stp ε W1 W2 → Src K J (On W2) xs → R J W2.H) → wi σ W1.H R
section
variable {α β γ : Type} [Py α] [Py β] [Py γ] {K : Fg} {σ : SS} {W W' : Wd} {v : V} {te ta tb : TE} {wi : TI} {ε : Ef}
theorem EvJ.i {xs : List α} (h : EvJ ε K wi σ W xs) : EvI ε K wi σ W xs := fun W1 g1 R k => h W1 g1 R fun J W2 g2 s => k J (On W2) W2 g2 (.refl _) (fun _ _ a b => a.trans b.on) s
theorem ei_list {xs : List α} (h : EvR ε K te σ W xs) : EvJ ε K (iList K te) σ W xs := fun W1 g1 R k => h W1 g1 _ fun v W2 g2 ⟨a, vs, e, s, r⟩ =>
  ⟨a, e, ⟨vs, SqL.of (W2.sub.el s)⟩, k (Itl K a) W2 g2 ⟨fun i W' o hi => by
      obtain ⟨x, hx⟩ : ∃ x, xs[i]? = some x := ⟨xs[i], by simp [hi]⟩
      obtain ⟨v, h1, _⟩ := Reps.get' r hx
      exact ⟨vs, v, SqL.of (W'.sub.el (o.b _ _ s)), h1⟩,
    fun i W' v H'' o hi ⟨e1, e2⟩ => by
      obtain ⟨x, h1, h2⟩ := Reps.get r (e2 vs (SqL.of (W'.sub.el (o.b _ _ s))))
      exact ⟨x, W', e1.symm, .refl _ _, h1, rex o.b h2⟩,
    fun i W' o hi => ⟨vs, SqL.of (W'.sub.el (o.b _ _ s)), by rw [Reps.len r]; exact hi⟩⟩⟩
theorem ei_tup {xs : Tup α} (h : EvR ε K te σ W xs) : EvJ ε K (iTup K te) σ W xs.items := fun W1 g1 R k => h W1 g1 _ fun v W2 g2 ⟨a, vs, e, s, r⟩ =>
  ⟨a, e, ⟨vs, SqT.of (W2.sub.et s)⟩, k (Itt K a) W2 g2 ⟨fun i W' o hi => by
      obtain ⟨x, hx⟩ : ∃ x, xs.items[i]? = some x := ⟨xs.items[i], by simp [hi]⟩
      obtain ⟨v, h1, _⟩ := Reps.get' r hx
      exact ⟨vs, v, SqT.of (W'.sub.et (o.b _ _ s)), h1⟩,
    fun i W' v H'' o hi ⟨e1, e2⟩ => by
      obtain ⟨x, h1, h2⟩ := Reps.get r (e2 vs (SqT.of (W'.sub.et (o.b _ _ s))))
      exact ⟨x, W', e1.symm, .refl _ _, h1, rex o.b h2⟩,
    fun i W' o hi => ⟨vs, SqT.of (W'.sub.et (o.b _ _ s)), by rw [Reps.len r]; exact hi⟩⟩⟩
/-- lo, lo + 1, .. -/
def rng (lo : Int) (n : Nat) : List Int := (List.range n).map fun i => lo + (i : Nat)
theorem rng_len (lo : Int) (n : Nat) : (rng lo n).length = n := by unfold rng; simp
theorem rng_get {lo : Int} {n i : Nat} (h : i < n) : (rng lo n)[i]? = some (lo + (i : Nat)) := by unfold rng; simp [h]
theorem rng_mem {lo k : Int} {n : Nat} : k ∈ rng lo n ↔ lo ≤ k ∧ k < lo + n := by
  unfold rng
  simp only [List.mem_map, List.mem_range]
  constructor
  · rintro ⟨i, h, rfl⟩; omega
  · rintro ⟨h1, h2⟩; exact ⟨(k - lo).toNat, by omega, by omega⟩
theorem src_range {lo : Int} {n : Nat} {S : Wd → Prop} : Src K (Itr lo n) S (rng lo n) :=
  ⟨fun i W' _ hi => by rw [rng_len] at hi; exact hi, fun i W' v H'' _ hi ⟨e1, e2⟩ => ⟨_, W', e1.symm, .refl _ _, rng_get (by rw [rng_len] at hi; exact hi), e2⟩,
    fun i W' _ hi => by rw [rng_len] at hi; exact hi⟩
theorem ei_rng1 {n : Int} (h : EvR ε K ta σ W n) (hn : n ≤ 1000000000) (hm : -1000000000 ≤ n) : EvJ ε K (iRng1 (tCons ta tNil)) σ W (rng 0 n.toNat) := fun W1 g1 R k => h W1 g1 _ fun v W2 g2 r =>
  ⟨n, by rw [show v = _ from r], by omega, by omega, k _ W2 g2 src_range⟩
theorem ei_rng2 {m n : Int} (ha : EvR ε K ta σ W m) (hb : EvR ε K tb σ W n) (h1 : m ≤ 1000000000 ∧ -1000000000 ≤ m ∧ n ≤ 1000000000 ∧ -1000000000 ≤ n) : EvJ ε K (iRng2 (tCons ta (tCons tb tNil))) σ W (rng m (n - m).toNat) := fun W1 g1 R k => ha W1 g1 _ fun v W2 g2 r =>
  hb W2 (g1.trans g2) _ fun u W3 g3 ru => ⟨m, n, by rw [show v = _ from r, show u = _ from ru], by omega, k _ W3 (g2.trans g3) src_range⟩
theorem ei_enum {xs : List α} (h : EvR ε K te σ W xs) : EvJ ε K (iEnum K (tCons te tNil)) σ W ((rng 0 xs.length).zip xs) := fun W1 g1 R k => h W1 g1 _ fun v W2 g2 ⟨a, vs, e, s, r⟩ =>
  ⟨a, vs, by rw [e], SqL.of (W2.sub.el s), k (Ite K a) W2 g2 ⟨fun i W' o hi => by
      have hi' : i < xs.length := by simp [rng_len] at hi; exact hi
      obtain ⟨x, hx⟩ : ∃ x, xs[i]? = some x := ⟨xs[i], by simp [hi']⟩
      obtain ⟨v, h1, _⟩ := Reps.get' r hx
      exact ⟨vs, v, SqL.of (W'.sub.el (o.b _ _ s)), h1⟩,
    fun i W' v H'' o hi ⟨T, x, e1, hT, e2, e3⟩ => by
      have hi' : i < xs.length := by simp [rng_len] at hi; exact hi
      obtain ⟨y, h1, h2⟩ := Reps.get r (e3 vs (SqL.of (W'.sub.el (o.b _ _ s))))
      refine ⟨((i : Int), y), W'.add T _, e2.symm, W'.grow_add hT, ?_, T, .int (i : Nat), x, e1, upd_same, rfl, rep_g (W'.grow_add hT) (rex o.b h2)⟩
      rw [List.getElem?_zip_eq_some]
      exact ⟨by rw [rng_get hi']; simp, h1⟩,
    fun i W' o hi => ⟨vs, SqL.of (W'.sub.el (o.b _ _ s)), by rw [Reps.len r]; simp [rng_len] at hi; exact hi⟩⟩⟩
theorem ei_zip {xs : List α} {ys : List β} (ha : EvR ε K ta σ W xs) (hb : EvR ε K tb σ W ys) : EvJ ε K (iZip K (tCons ta (tCons tb tNil))) σ W (xs.zip ys) := fun W1 g1 R k => ha W1 g1 _ fun v W2 g2 r1 => hb W2 (g1.trans g2) _ fun u W3 g3 r2 => by
  obtain ⟨a, vs, e, s, r⟩ := rep_s g3 r1
  obtain ⟨b, us, e', s', r'⟩ := r2
  refine ⟨a, b, vs, us, by rw [e, e'], SqL.of (W3.sub.el s), SqL.of (W3.sub.el s'), k (Itz K a b) W3 (g2.trans g3) ⟨fun i W' o hi => ?_, fun i W' v H'' o hi ⟨T, x, y, e1, hT, e2, e3, e4⟩ => ?_, fun i W' o hi => ?_⟩⟩
  · have hi' : i < xs.length ∧ i < ys.length := by simp at hi; omega
    obtain ⟨x, hx⟩ : ∃ x, xs[i]? = some x := ⟨xs[i], by simp [hi'.1]⟩
    obtain ⟨y, hy⟩ : ∃ x, ys[i]? = some x := ⟨ys[i], by simp [hi'.2]⟩
    obtain ⟨v, h1, _⟩ := Reps.get' r hx
    obtain ⟨u, h2, _⟩ := Reps.get' r' hy
    exact ⟨vs, us, v, u, SqL.of (W'.sub.el (o.b _ _ s)), SqL.of (W'.sub.el (o.b _ _ s')), h1, h2⟩
  · obtain ⟨p, h1, h2⟩ := Reps.get r (e3 vs (SqL.of (W'.sub.el (o.b _ _ s))))
    obtain ⟨q, h3, h4⟩ := Reps.get r' (e4 us (SqL.of (W'.sub.el (o.b _ _ s'))))
    refine ⟨(p, q), W'.add T _, e2.symm, W'.grow_add hT, ?_, T, x, y, e1, upd_same, rep_g (W'.grow_add hT) (rex o.b h2), rep_g (W'.grow_add hT) (rex o.b h4)⟩
    rw [List.getElem?_zip_eq_some]
    exact ⟨h1, h3⟩
  · refine ⟨vs, us, SqL.of (W'.sub.el (o.b _ _ s)), SqL.of (W'.sub.el (o.b _ _ s')), ?_⟩
    rw [Reps.len r, Reps.len r']
    simp at hi
    omega
end
end B
/-! B: comprehensions, locked dicts, statements, calls -/
namespace B
open PySem L2
open Evl (Ex)
/-! ### an iterated target -/
def GT {α : Type} [Py α] (K : Fg) (g : TG) (P : α → SS → SS → Wd → Prop) : Prop :=
  ∀ x v W σ (Q : SS → Hp → Prop), rep K W.B v x → (∀ σ2, P x σ σ2 W → Q σ2 W.H) → g v σ W.H Q
section
variable {α β γ : Type} [Py α] [Py β] [Py γ] {K : Fg} {σ : SS} {W W' : Wd} {v : V} {te ta tb : TE} {tt : TT} {wi : TI} {g : TG} {vs : List Nat} {ε : Ef}
def PN (K : Fg) (j : Nat) (x : α) (σ σ2 : SS) (W : Wd) : Prop := ∃ v, rep K W.B v x ∧ σ2 = σ.set j (some v)
def PP (K : Fg) (i j : Nat) (x : α × β) (σ σ2 : SS) (W : Wd) : Prop := ∃ v u, rep K W.B v x.1 ∧ rep K W.B u x.2 ∧ σ2 = (σ.set i (some v)).set j (some u)
theorem gt_name {j : Nat} : GT (α := α) K (gName j) (PN K j) := fun x v W σ Q r k => k _ ⟨v, r, rfl⟩
abbrev gPair (K : Fg) (i j : Nat) : TG := gTup K 2 (gCons (gName i) (gCons (gName j) gNil))
theorem gt_pair {i j : Nat} : GT (α := α × β) K (gPair K i j) (PP K i j) := fun x v W σ Q ⟨a, p, q, e, s, r1, r2⟩ k =>
  ⟨a, [p, q], e, SqT.of (W.sub.et s), rfl, p, [q], rfl, q, [], rfl, rfl, k _ ⟨p, q, r1, r2, rfl⟩⟩
/-! ### list comprehensions -/
theorem en_lc {xs : List α} {p : α → Bool} {f : α → β} {P : α → SS → SS → Wd → Prop} (hi : EvI ε K wi σ W xs) (hg : GT K g P)
    (hw : ∀ x σ2 W', P x (wipe σ vs) σ2 W' → wipe σ2 vs = wipe σ vs)
    (ht : ∀ x W' σ2, x ∈ xs → Stp ε W W' → P x (wipe σ vs) σ2 W' → EvT ε tt σ2 W' (p x))
    (he : ∀ x W' σ2, x ∈ xs → p x = true → Stp ε W W' → P x (wipe σ vs) σ2 W' → EvR ε K te σ2 W' (f x))
    (hP : ∀ x σ2 W' W'', P x (wipe σ vs) σ2 W' → Stp ε W' W'' → P x (wipe σ vs) σ2 W'')
    (hl : xs.length ≤ 100000) : EvN ε K (tLc wi g tt te vs) σ W ((xs.filter p).map f) := fun W1 g1 Q k =>
  hi W1 g1 _ fun J S W2 g2 s2 sg src D hD => by
    have DS : D ∉ ε.S := Ef.off g2.i hD
    refine ⟨fun i m H => m = xs.length - i ∧ i ≤ xs.length ∧ ∃ Wi acc, Wi.H = H ∧ Stp ε W2 Wi ∧ Wi.B D = none ∧ Wi.H D = some (.lst acc) ∧ Reps K Wi.B acc (((xs.take i).filter p).map f), ⟨xs.length, rfl, Nat.zero_le _, W2.put D (.lst []) (W2.free hD), [], rfl, ⟨md_mut (.refl _ _) (W2.free hD) hD, i_put DS g2.i _⟩, W2.free hD, upd_same, by simpa using Paired.nil⟩, ?_⟩
    rintro i m H ⟨rfl, hle, Wi, acc, rfl, gi, bD, hDi, rs⟩
    have si : S Wi := sg _ _ s2 gi
    have hacc : acc.length ≤ i := by
      rw [Reps.len rs, List.length_map]
      exact Nat.le_trans (List.length_filter_le _ _) (by rw [List.length_take]; omega)
    by_cases hlt : i < xs.length
    · refine .inr ⟨src.go i Wi si hlt, fun H => i + 1 ≤ xs.length ∧ ∃ Wi acc, Wi.H = H ∧ Stp ε W2 Wi ∧ Wi.B D = none ∧ Wi.H D = some (.lst acc) ∧ Reps K Wi.B acc (((xs.take (i + 1)).filter p).map f), fun H' h' => ⟨_, by omega, rfl, h'⟩, fun v H'' hy => ?_⟩
      obtain ⟨x, W3, rfl, g3', hx, r⟩ := src.yld i Wi v H'' si hlt hy
      have g3 : Stp ε Wi W3 := gi.rf.and g3'
      have hm : x ∈ xs := List.mem_of_getElem? hx
      have tk : xs.take (i + 1) = xs.take i ++ [x] := by rw [List.take_add_one, hx]; rfl
      have m3 := g3.md.mut DS hDi bD
      refine hg x v W3 _ _ r fun σ2 hp => ⟨hw x σ2 W3 hp, ?_⟩
      refine ht x W3 σ2 hm (((g1.trans g2).trans gi).trans g3) hp W3 g3.rf _ fun W4 g4 => ?_
      have m4 := g4.md.mut DS m3.1 m3.2
      cases hpx : p x with
      | true =>
        rw [if_pos rfl]
        refine he x W4 σ2 hm hpx ((((g1.trans g2).trans gi).trans g3).trans g4) (hP x σ2 W3 W4 hp g4) W4 g4.rf _ fun u W5 g5 r5 => ?_
        have m5 := g5.md.mut DS m4.1 m4.2
        refine ⟨acc, m5.1, Evl.sz_lt (by omega), hlt, W5.put D _ m5.2, acc ++ [u], rfl, ⟨md_mut (((gi.trans g3).trans g4).trans g5).md m5.2 hD, i_put DS g5.i _⟩, m5.2, upd_same, ?_⟩
        rw [tk, List.filter_append, List.map_append]
        simp only [List.filter_cons, hpx, if_pos, List.filter_nil, List.map_cons, List.map_nil]
        exact Reps.snoc (Reps.mono (exExt ((g3.trans g4).trans g5).md.b) rs) r5
      | false =>
        rw [if_neg Bool.false_ne_true]
        refine ⟨hlt, W4, acc, rfl, (gi.trans g3).trans g4, m4.2, m4.1, ?_⟩
        rw [tk, List.filter_append, List.map_append]
        simp only [List.filter_cons, hpx, List.filter_nil, List.map_nil, List.append_nil, if_neg Bool.false_ne_true]
        exact Reps.mono (exExt (g3.trans g4).md.b) rs
    · have e : i = xs.length := by omega
      subst e
      rw [List.take_length] at rs
      exact .inl ⟨src.stop _ Wi si (Nat.le_refl _), k D acc Wi (g2.trans gi) (by
        cases e : W1.H D with
        | none => rfl
        | some o => exact absurd hD (g2.md.d D (by rw [e]; exact fun z => by cases z))) bD hDi rs⟩
theorem et_yes : EvT ε tYes σ W true := fun W1 g1 Q k => k W1 g1.rf
theorem wipe1 {j : Nat} {v : V} : wipe ((wipe σ [j]).set j (some v)) [j] = wipe σ [j] := by simp [wipe, List.set_set]
theorem set_none_comm {σ : SS} {i j : Nat} {a : Option V} (h : i ≠ j) : (σ.set i a).set j none = (σ.set j none).set i a := List.set_comm _ _ h
theorem wipe2 {i j : Nat} {v u : V} : wipe (((wipe σ [i, j]).set i (some v)).set j (some u)) [i, j] = wipe σ [i, j] := by
  simp only [wipe]
  by_cases h : i = j
  · subst h; simp [List.set_set]
  · rw [List.set_set, set_none_comm (σ := ((σ.set j none).set i none)) h, List.set_set, List.set_comm (l := σ) _ _ (Ne.symm h), List.set_set]
    rw [List.set_comm (l := σ) _ _ h, List.set_set]
theorem filter_yes (xs : List α) : xs.filter (fun _ => true) = xs := List.filter_eq_self.mpr fun _ _ => rfl
/-- [e for x in ..], [e for x in .. if t] -/
theorem en_lcN {j : Nat} {xs : List α} {f : α → β} (hi : EvI ε K wi σ W xs) (he : ∀ x v W', x ∈ xs → Stp ε W W' → rep K W'.B v x → EvR ε K te ((wipe σ [j]).set j (some v)) W' (f x)) (hl : xs.length ≤ 100000) :
    EvN ε K (tLc wi (gName j) tYes te [j]) σ W (xs.map f) := by
  have := en_lc (ε := ε) (K := K) (wi := wi) (g := gName j) (tt := tYes) (te := te) (vs := [j]) (p := fun _ => true) (f := f) hi gt_name (fun x σ2 W' ⟨v, _, e⟩ => by rw [e]; exact wipe1) (fun _ _ _ _ _ _ => et_yes)
    (fun x W' σ2 hm _ g ⟨v, r, e⟩ => by rw [e]; exact he x v W' hm g r) (fun x σ2 W' W'' ⟨v, r, e⟩ g => ⟨v, rep_s g r, e⟩) hl
  rw [filter_yes] at this
  exact this
theorem ev_lcN {j : Nat} {xs : List α} {f : α → β} (hi : EvI ε K wi σ W xs) (he : ∀ x v W', x ∈ xs → Stp ε W W' → rep K W'.B v x → EvR ε K te ((wipe σ [j]).set j (some v)) W' (f x)) (hl : xs.length ≤ 100000) :
    EvR ε K (tLc wi (gName j) tYes te [j]) σ W (xs.map f) := (en_lcN hi he hl).toR
theorem en_lcNt {j : Nat} {xs : List α} {p : α → Bool} {f : α → β} (hi : EvI ε K wi σ W xs) (ht : ∀ x v W', x ∈ xs → Stp ε W W' → rep K W'.B v x → EvT ε tt ((wipe σ [j]).set j (some v)) W' (p x))
    (he : ∀ x v W', x ∈ xs → p x = true → Stp ε W W' → rep K W'.B v x → EvR ε K te ((wipe σ [j]).set j (some v)) W' (f x)) (hl : xs.length ≤ 100000) :
    EvN ε K (tLc wi (gName j) tt te [j]) σ W ((xs.filter p).map f) :=
  en_lc hi gt_name (fun x σ2 W' ⟨v, _, e⟩ => by rw [e]; exact wipe1) (fun x W' σ2 hm g ⟨v, r, e⟩ => by rw [e]; exact ht x v W' hm g r)
    (fun x W' σ2 hm hp g ⟨v, r, e⟩ => by rw [e]; exact he x v W' hm hp g r) (fun x σ2 W' W'' ⟨v, r, e⟩ g => ⟨v, rep_s g r, e⟩) hl
theorem ev_lcNt {j : Nat} {xs : List α} {p : α → Bool} {f : α → β} (hi : EvI ε K wi σ W xs) (ht : ∀ x v W', x ∈ xs → Stp ε W W' → rep K W'.B v x → EvT ε tt ((wipe σ [j]).set j (some v)) W' (p x))
    (he : ∀ x v W', x ∈ xs → p x = true → Stp ε W W' → rep K W'.B v x → EvR ε K te ((wipe σ [j]).set j (some v)) W' (f x)) (hl : xs.length ≤ 100000) :
    EvR ε K (tLc wi (gName j) tt te [j]) σ W ((xs.filter p).map f) := (en_lcNt hi ht he hl).toR
theorem en_lcP {i j : Nat} {xs : List (α × β)} {f : α × β → γ} (hi : EvI ε K wi σ W xs) (he : ∀ x v u W', x ∈ xs → Stp ε W W' → rep K W'.B v x.1 → rep K W'.B u x.2 → EvR ε K te (((wipe σ [i, j]).set i (some v)).set j (some u)) W' (f x)) (hl : xs.length ≤ 100000) :
    EvN ε K (tLc wi (gPair K i j) tYes te [i, j]) σ W (xs.map f) := by
  have := en_lc (ε := ε) (K := K) (wi := wi) (g := gPair K i j) (tt := tYes) (te := te) (vs := [i, j]) (p := fun _ => true) (f := f) hi gt_pair (fun x σ2 W' ⟨v, u, _, _, e⟩ => by rw [e]; exact wipe2) (fun _ _ _ _ _ _ => et_yes)
    (fun x W' σ2 hm _ g ⟨v, u, r, r', e⟩ => by rw [e]; exact he x v u W' hm g r r') (fun x σ2 W' W'' ⟨v, u, r, r', e⟩ g => ⟨v, u, rep_s g r, rep_s g r', e⟩) hl
  rw [filter_yes] at this
  exact this
theorem ev_lcP {i j : Nat} {xs : List (α × β)} {f : α × β → γ} (hi : EvI ε K wi σ W xs) (he : ∀ x v u W', x ∈ xs → Stp ε W W' → rep K W'.B v x.1 → rep K W'.B u x.2 → EvR ε K te (((wipe σ [i, j]).set i (some v)).set j (some u)) W' (f x)) (hl : xs.length ≤ 100000) :
    EvR ε K (tLc wi (gPair K i j) tYes te [i, j]) σ W (xs.map f) := (en_lcP hi he hl).toR
theorem en_lcPt {i j : Nat} {xs : List (α × β)} {p : α × β → Bool} {f : α × β → γ} (hi : EvI ε K wi σ W xs) (ht : ∀ x v u W', x ∈ xs → Stp ε W W' → rep K W'.B v x.1 → rep K W'.B u x.2 → EvT ε tt (((wipe σ [i, j]).set i (some v)).set j (some u)) W' (p x))
    (he : ∀ x v u W', x ∈ xs → p x = true → Stp ε W W' → rep K W'.B v x.1 → rep K W'.B u x.2 → EvR ε K te (((wipe σ [i, j]).set i (some v)).set j (some u)) W' (f x)) (hl : xs.length ≤ 100000) :
    EvN ε K (tLc wi (gPair K i j) tt te [i, j]) σ W ((xs.filter p).map f) :=
  en_lc hi gt_pair (fun x σ2 W' ⟨v, u, _, _, e⟩ => by rw [e]; exact wipe2) (fun x W' σ2 hm g ⟨v, u, r, r', e⟩ => by rw [e]; exact ht x v u W' hm g r r')
    (fun x W' σ2 hm hp g ⟨v, u, r, r', e⟩ => by rw [e]; exact he x v u W' hm hp g r r') (fun x σ2 W' W'' ⟨v, u, r, r', e⟩ g => ⟨v, u, rep_s g r, rep_s g r', e⟩) hl
theorem ev_lcPt {i j : Nat} {xs : List (α × β)} {p : α × β → Bool} {f : α × β → γ} (hi : EvI ε K wi σ W xs) (ht : ∀ x v u W', x ∈ xs → Stp ε W W' → rep K W'.B v x.1 → rep K W'.B u x.2 → EvT ε tt (((wipe σ [i, j]).set i (some v)).set j (some u)) W' (p x))
    (he : ∀ x v u W', x ∈ xs → p x = true → Stp ε W W' → rep K W'.B v x.1 → rep K W'.B u x.2 → EvR ε K te (((wipe σ [i, j]).set i (some v)).set j (some u)) W' (f x)) (hl : xs.length ≤ 100000) :
    EvR ε K (tLc wi (gPair K i j) tt te [i, j]) σ W ((xs.filter p).map f) := (en_lcPt hi ht he hl).toR
end

/-! ### a dict, locked -/
structure Lk (W WL : Wd) (d : Addr) (ks : List (Key × V)) : Prop where
  b : Ex W.B WL.B
  lk : ∃ od, WL.H d = some (.frz od (.dK ks))
  h : ∀ a o, a ≠ d → W.H a = some o → WL.H a = some o
section
variable {α β : Type} [Py α] [Py β] {K : Fg} {σ : SS} {W W' : Wd} {v : V} {te : TE} {t : TE} {ε : Ef}
theorem rep_lk {WL : Wd} {d : Addr} {ks : List (Key × V)} {x : α} (l : Lk W WL d ks) (h : rep K W.B v x) : rep K WL.B v x := rex l.b h
theorem ev_lock {d : Addr} {ks : List (Key × V)} {x : α} (hd : W.H d = some (.dK ks)) (h : ∀ WL, Lk W WL d ks → EvR pur K t σ WL x) : EvR pur K (tLockE t) σ W x := fun W1 g1' Q k => by
  have g1 := g1'.pure
  have hd1 := g1.h _ _ hd
  refine ⟨d, _, hd1, trivial, fun od => ?_⟩
  have sub : Ext W1.B (upd W1.H d (.frz od (.dK ks))) := fun a o e => by
    by_cases q : a = d
    · subst q
      rcases W1.sub a o e with h1 | ⟨⟨k', rfl⟩, ob, h1⟩
      · rw [hd1] at h1; cases h1
        exact .inr ⟨⟨ks, rfl⟩, od, upd_same⟩
      · rw [hd1] at h1; cases h1
    · rw [upd_ne q]; exact W1.sub a o e
  let WL : Wd := ⟨W1.B, upd W1.H d (.frz od (.dK ks)), sub⟩
  have lk : Lk W WL d ks := ⟨g1.b, ⟨od, upd_same⟩, fun a o q e => by
    show upd W1.H d _ a = some o
    rw [upd_ne q]; exact g1.h a o e⟩
  refine h WL lk WL (.start trivial) _ fun v W2 g2' r => ?_
  have g2 := g2'.pure
  have h2 : W2.H d = some (.frz od (.dK ks)) := g2.h _ _ upd_same
  refine ⟨h2, ?_⟩
  have hB : W2.B d = W1.B d := g2.m d ⟨.frz od (.dK ks), upd_same, fun _ z => by cases z⟩
  have sub3 : Ext W2.B (upd W2.H d (.dK ks)) := fun a o e => by
    by_cases q : a = d
    · subst q
      rw [hB] at e
      rcases W1.sub a o e with h1 | ⟨⟨k', rfl⟩, ob, h1⟩
      · rw [hd1] at h1; cases h1; exact .inl upd_same
      · rw [hd1] at h1; cases h1
    · rw [upd_ne q]; exact W2.sub a o e
  refine k v ⟨W2.B, upd W2.H d (.dK ks), sub3⟩ (.of (.mk g2.b (fun a o e => ?_) (fun a ha => ?_))) r
  · show upd W2.H d (.dK ks) a = some o
    by_cases q : a = d
    · subst q; rw [hd1] at e; cases e; exact upd_same
    · rw [upd_ne q]
      exact g2.h a o (by show upd W1.H d _ a = some o; rw [upd_ne q]; exact e)
  · refine g2.m a ?_
    show Nt (upd W1.H d _) a
    by_cases q : a = d
    · subst q; exact ⟨_, upd_same, fun _ z => by cases z⟩
    · obtain ⟨u, e, hu⟩ := ha
      exact ⟨u, (upd_ne q).trans e, hu⟩
section
variable {κ : Type} [PyKV κ] {d : Addr} {ks : List (Key × V)} {kv : List (κ × α)}
theorem ei_items {WL : Wd} (hv : EvR pur K te σ WL (Raw.mk (.ref d))) (lk : ∃ od, WL.H d = some (.frz od (.dK ks))) (r : KReps K WL.B ks kv) : EvI pur K (iItems te) σ WL kv := fun W1 g1 R k => hv W1 g1 _ fun v W2 g2 e => by
  obtain ⟨od, hod⟩ := lk
  have h2 := (g1.trans g2).pure.h _ _ hod
  refine ⟨d, od, ks, e, h2, k (Iti d od ks) (fun W' => W'.H d = some (.frz od (.dK ks)) ∧ Ex WL.B W'.B) W2 g2 ⟨h2, (g1.trans g2).md.b⟩ (fun W W' ⟨a, b⟩ g => ⟨g.pure.h _ _ a, b.trans g.md.b⟩) ⟨fun i W' s hi => ⟨s.1, by rw [KReps.len r]; exact hi⟩, fun i W' v H'' s hi ⟨T, k', v', h1, e1, hT, e2⟩ => ?_, fun i W' s hi => ⟨s.1, by rw [KReps.len r]; exact hi⟩⟩⟩
  obtain ⟨q, hq, hk, hr⟩ := KReps.get r h1
  refine ⟨q, W'.add T _, e2.symm, W'.grow_add hT, hq, T, _, _, e1, upd_same, ?_, rep_g (W'.grow_add hT) (rex s.2 hr)⟩
  rw [hk]
  exact PyKV.krep _ _ _
theorem ei_keys {WL : Wd} (hv : EvR pur K te σ WL (Raw.mk (.ref d))) (lk : ∃ od, WL.H d = some (.frz od (.dK ks))) (r : KReps K WL.B ks kv) : EvI pur K (iKeys te) σ WL (kv.map (·.1)) := fun W1 g1 R k => hv W1 g1 _ fun v W2 g2 e => by
  obtain ⟨od, hod⟩ := lk
  have h2 := (g1.trans g2).pure.h _ _ hod
  refine ⟨d, od, e, .inl ⟨ks, h2, k (Itk d od ks) (fun W' => W'.H d = some (.frz od (.dK ks)) ∧ Ex WL.B W'.B) W2 g2 ⟨h2, (g1.trans g2).md.b⟩ (fun W W' ⟨a, b⟩ g => ⟨g.pure.h _ _ a, b.trans g.md.b⟩) ⟨fun i W' s hi => ⟨s.1, by rw [KReps.len r]; simpa using hi⟩, fun i W' v H'' s hi ⟨e2, k', v', h1, e1⟩ => ?_, fun i W' s hi => ⟨s.1, by rw [KReps.len r]; simpa using hi⟩⟩⟩⟩
  obtain ⟨q, hq, hk, hr⟩ := KReps.get r h1
  exact ⟨q.1, W', e2.symm, .refl _ _, by simp [hq], by rw [e1, hk]; exact PyKV.krep _ _ _⟩
theorem ei_vals {WL : Wd} (hv : EvR pur K te σ WL (Raw.mk (.ref d))) (lk : ∃ od, WL.H d = some (.frz od (.dK ks))) (r : KReps K WL.B ks kv) : EvI pur K (iVals te) σ WL (kv.map (·.2)) := fun W1 g1 R k => hv W1 g1 _ fun v W2 g2 e => by
  obtain ⟨od, hod⟩ := lk
  have h2 := (g1.trans g2).pure.h _ _ hod
  refine ⟨d, od, ks, e, h2, k (Itd d od ks) (fun W' => W'.H d = some (.frz od (.dK ks)) ∧ Ex WL.B W'.B) W2 g2 ⟨h2, (g1.trans g2).md.b⟩ (fun W W' ⟨a, b⟩ g => ⟨g.pure.h _ _ a, b.trans g.md.b⟩) ⟨fun i W' s hi => ⟨s.1, by rw [KReps.len r]; simpa using hi⟩, fun i W' v H'' s hi ⟨e2, k', h1⟩ => ?_, fun i W' s hi => ⟨s.1, by rw [KReps.len r]; simpa using hi⟩⟩⟩
  obtain ⟨q, hq, hk, hr⟩ := KReps.get r h1
  exact ⟨q.2, W', e2.symm, .refl _ _, by simp [hq], rex s.2 hr⟩
end
end

/-! ### statements -/
section
variable {α β γ : Type} [Py α] [Py β] [Py γ] {K : Fg} {σ : SS} {W : Wd} {D : Ends} {te ta tb : TE} {t : TT} {tu tw tz : TS} {x : α} {y : β} {ε : Ef}
theorem s_asgP {P : V → Wd → Prop} {i : Nat} (h : EvP ε te σ W P) (s : ε.I W) (k : ∀ v W', Stp ε W W' → P v W' → D.nx (σ.set i (some v)) W'.H) : tAsg te (gName i) D σ W.H := h W (.start s) _ k
theorem q_asgP {P : V → Wd → Prop} {i : Nat} (h : EvP ε te σ W P) (s : ε.I W) (k : ∀ v W', Stp ε W W' → P v W' → tz D (σ.set i (some v)) W'.H) : tSeq (tAsg te (gName i)) tz D σ W.H := h W (.start s) _ k
theorem q_asg {i : Nat} (h : EvR ε K te σ W x) (s : ε.I W) (k : ∀ v W', Stp ε W W' → rep K W'.B v x → tz D (σ.set i (some v)) W'.H) : tSeq (tAsg te (gName i)) tz D σ W.H := h W (.start s) _ k
theorem s_asg {i : Nat} (h : EvR ε K te σ W x) (s : ε.I W) (k : ∀ v W', Stp ε W W' → rep K W'.B v x → D.nx (σ.set i (some v)) W'.H) : tAsg te (gName i) D σ W.H := h W (.start s) _ k
theorem q_asgN {xs : List α} {i : Nat} (h : EvN ε K te σ W xs) (s : ε.I W) (k : ∀ p vs W', Stp ε W W' → W.H p = none → W'.B p = none → W'.H p = some (.lst vs) → Reps K W'.B vs xs → tz D (σ.set i (some (.ref p))) W'.H) : tSeq (tAsg te (gName i)) tz D σ W.H := h W (.start s) _ k
theorem s_asgN {xs : List α} {i : Nat} (h : EvN ε K te σ W xs) (s : ε.I W) (k : ∀ p vs W', Stp ε W W' → W.H p = none → W'.B p = none → W'.H p = some (.lst vs) → Reps K W'.B vs xs → D.nx (σ.set i (some (.ref p))) W'.H) : tAsg te (gName i) D σ W.H := h W (.start s) _ k
theorem s_retN {xs : List α} (h : EvN ε K te σ W xs) (s : ε.I W) (k : ∀ p vs W', Stp ε W W' → W.H p = none → W'.B p = none → W'.H p = some (.lst vs) → Reps K W'.B vs xs → D.rt (.ref p) W'.H) : tRet te D σ W.H := h W (.start s) _ k
theorem s_ret (h : EvR ε K te σ W x) (s : ε.I W) (k : ∀ v W', Stp ε W W' → rep K W'.B v x → D.rt v W'.H) : tRet te D σ W.H := h W (.start s) _ k
theorem s_retP {P : V → Wd → Prop} (h : EvP ε te σ W P) (s : ε.I W) (k : ∀ v W', Stp ε W W' → P v W' → D.rt v W'.H) : tRet te D σ W.H := h W (.start s) _ k
theorem s_if {b : Bool} (h : EvT ε t σ W b) (s : ε.I W) (h1 : b = true → ∀ W', Stp ε W W' → tu D σ W'.H) (h2 : b = false → ∀ W', Stp ε W W' → tw D σ W'.H) : tIfS t tu tw D σ W.H := h W (.start s) _ fun W' g => by
  cases b with
  | true => rw [if_pos rfl]; exact h1 rfl W' g
  | false => rw [if_neg Bool.false_ne_true]; exact h2 rfl W' g
theorem q_if {b : Bool} (h : EvT ε t σ W b) (s : ε.I W) (h1 : b = true → ∀ W', Stp ε W W' → tu { D with nx := tz D } σ W'.H) (h2 : b = false → ∀ W', Stp ε W W' → tw { D with nx := tz D } σ W'.H) : tSeq (tIfS t tu tw) tz D σ W.H := s_if (D := { D with nx := tz D }) h s h1 h2
/-- an if without else -/
theorem q_when {b : Bool} (h : EvT ε t σ W b) (s : ε.I W) (h1 : b = true → ∀ W', Stp ε W W' → tu { D with nx := tz D } σ W'.H) (h2 : b = false → ∀ W', Stp ε W W' → tz D σ W'.H) : tSeq (tIfS t tu tNext) tz D σ W.H := s_if (D := { D with nx := tz D }) h s h1 h2
theorem s_when {b : Bool} (h : EvT ε t σ W b) (s : ε.I W) (h1 : b = true → ∀ W', Stp ε W W' → tu D σ W'.H) (h2 : b = false → ∀ W', Stp ε W W' → D.nx σ W'.H) : tIfS t tu tNext D σ W.H := s_if h s h1 h2
theorem q_drop {P : V → Wd → Prop} (h : EvP ε te σ W P) (s : ε.I W) (k : ∀ v W', Stp ε W W' → P v W' → tz D σ W'.H) : tSeq (tDrop te) tz D σ W.H := h W (.start s) _ k
theorem q_augI {i : Nat} {f : Int → Int → Int} {a b : Int} (hx : σ[i]? = some (some (.int a))) (h : EvR ε K te σ W b) (s : ε.I W) (k : ∀ W', Stp ε W W' → tz D (σ.set i (some (.int (f a b)))) W'.H) : tSeq (tAug i te (ipI f)) tz D σ W.H :=
  ⟨_, hx, h W (.start s) _ fun u W' g ru => ⟨a, b, rfl, ru, k W' g⟩⟩
theorem s_augI {i : Nat} {f : Int → Int → Int} {a b : Int} (hx : σ[i]? = some (some (.int a))) (h : EvR ε K te σ W b) (s : ε.I W) (k : ∀ W', Stp ε W W' → D.nx (σ.set i (some (.int (f a b)))) W'.H) : tAug i te (ipI f) D σ W.H :=
  ⟨_, hx, h W (.start s) _ fun u W' g ru => ⟨a, b, rfl, ru, k W' g⟩⟩
/-- a, b = x, y -/
theorem q_par {i j : Nat} {P R : V → Wd → Prop} (ha : EvP ε ta σ W P) (hb : EvP ε tb σ W R) (s : ε.I W) (mono : ∀ v W W', Stp ε W W' → P v W → P v W')
    (k : ∀ v u W', Stp ε W W' → P v W' → R u W' → tz D ((σ.set i (some v)).set j (some u)) W'.H) : tSeq (tPar i j (tCons ta (tCons tb tNil))) tz D σ W.H :=
  ha W (.start s) _ fun v W1 g1 p => hb W1 g1 _ fun u W2 g2 r => ⟨v, u, rfl, k v u W2 (g1.trans g2) (mono v W1 W2 g2 p) r⟩
/-- the turns of a for over what J walks: Pv by the turn, the slots, the world -/
theorem for_src {g : TG} {xs : List α} {J : It} {W2 : Wd} (src : Src K J (On W2) xs) (Pv : Nat → SS → Wd → Prop) (h0 : Pv 0 σ W2) (hon : ∀ i σ' W', Pv i σ' W' → On W2 W')
    (hs : ∀ i x v σ' W' W'', i < xs.length → xs[i]? = some x → Pv i σ' W' → Grow W' W'' → rep K W''.B v x → g v σ' W''.H fun σ2 H2 => tu { D with nx := fun σ H => ∃ W, W.H = H ∧ Pv (i + 1) σ W, ct := fun σ H => ∃ W, W.H = H ∧ Pv (i + 1) σ W, bk := D.nx } σ2 H2)
    (hd : ∀ σ' W', Pv xs.length σ' W' → D.nx σ' W'.H) :
    ∃ W : Nat → Nat → SS → Hp → Prop, (∃ m, W 0 m σ W2.H) ∧ ∀ i m σ H, W i m σ H →
      (J.stop i H ∧ D.nx σ H) ∨ (J.go i H ∧ ∃ N : SS → Hp → Prop, (∀ σ' H', N σ' H' → ∃ m', m' < m ∧ W (i + 1) m' σ' H') ∧ ∀ x H', J.yld i H x H' → g x σ H' fun σ2 H2 => tu { D with nx := N, ct := N, bk := D.nx } σ2 H2) := by
  refine ⟨fun i m σ H => m = xs.length - i ∧ i ≤ xs.length ∧ ∃ W, W.H = H ∧ Pv i σ W, ⟨xs.length, rfl, Nat.zero_le _, W2, rfl, h0⟩, ?_⟩
  rintro i m σ' H ⟨rfl, hle, W', rfl, p⟩
  by_cases hlt : i < xs.length
  · refine .inr ⟨src.go i W' (hon i σ' W' p) hlt, fun σ H => ∃ W, W.H = H ∧ Pv (i + 1) σ W, fun σ'' H'' q => ⟨_, by omega, rfl, hlt, q⟩, fun v H'' hy => ?_⟩
    obtain ⟨x, W'', rfl, gg, hx, r⟩ := src.yld i W' v H'' (hon i σ' W' p) hlt hy
    exact hs i x v σ' W' W'' hlt hx p gg r
  · have e : i = xs.length := by omega
    subst e
    exact .inl ⟨src.stop _ W' (hon _ _ _ p) (Nat.le_refl _), hd σ' W' p⟩
/-- for target in .. -/
theorem s_for {wi : TI} {g : TG} {xs : List α} (hi : EvJ ε K wi σ W xs) (s : ε.I W)
    (k : ∀ W2, Stp ε W W2 → ∃ Pv : Nat → SS → Wd → Prop, Pv 0 σ W2 ∧ (∀ i σ' W', Pv i σ' W' → On W2 W') ∧
      (∀ i x v σ' W' W'', i < xs.length → xs[i]? = some x → Pv i σ' W' → Grow W' W'' → rep K W''.B v x → g v σ' W''.H fun σ2 H2 => tu { D with nx := fun σ H => ∃ W, W.H = H ∧ Pv (i + 1) σ W, ct := fun σ H => ∃ W, W.H = H ∧ Pv (i + 1) σ W, bk := D.nx } σ2 H2) ∧
      (∀ σ' W', Pv xs.length σ' W' → D.nx σ' W'.H)) : tFor wi g tu D σ W.H := hi W (.start s) _ fun J W2 g2 src => by
  obtain ⟨Pv, h0, hon, hs, hd⟩ := k W2 g2
  exact for_src src Pv h0 hon hs hd
theorem q_for {wi : TI} {g : TG} {xs : List α} (hi : EvJ ε K wi σ W xs) (s : ε.I W)
    (k : ∀ W2, Stp ε W W2 → ∃ Pv : Nat → SS → Wd → Prop, Pv 0 σ W2 ∧ (∀ i σ' W', Pv i σ' W' → On W2 W') ∧
      (∀ i x v σ' W' W'', i < xs.length → xs[i]? = some x → Pv i σ' W' → Grow W' W'' → rep K W''.B v x → g v σ' W''.H fun σ2 H2 => tu { D with nx := fun σ H => ∃ W, W.H = H ∧ Pv (i + 1) σ W, ct := fun σ H => ∃ W, W.H = H ∧ Pv (i + 1) σ W, bk := tz D } σ2 H2) ∧
      (∀ σ' W', Pv xs.length σ' W' → tz D σ' W'.H)) : tSeq (tFor wi g tu) tz D σ W.H := s_for (D := { D with nx := tz D }) hi s k
/-- for k in range(a drawn number) -/
theorem for_rng {j : Nat} {n : Int} {W2 : Wd} (Pv : Nat → SS → Wd → Prop) (h0 : Pv 0 σ W2) (hon : ∀ i σ' W', Pv i σ' W' → On W2 W')
    (hs : ∀ (i : Nat) σ' W', (i : Int) < n → Pv i σ' W' → tu { D with nx := fun σ H => ∃ W, W.H = H ∧ Pv (i + 1) σ W, ct := fun σ H => ∃ W, W.H = H ∧ Pv (i + 1) σ W, bk := D.nx } (σ'.set j (some (.int (i : Int)))) W'.H)
    (hd : ∀ σ' W', Pv n.toNat σ' W' → D.nx σ' W'.H) :
    ∃ W : Nat → Nat → SS → Hp → Prop, (∃ m, W 0 m σ W2.H) ∧ ∀ i m σ H, W i m σ H →
      ((Itr 0 n.toNat).stop i H ∧ D.nx σ H) ∨ ((Itr 0 n.toNat).go i H ∧ ∃ N : SS → Hp → Prop, (∀ σ' H', N σ' H' → ∃ m', m' < m ∧ W (i + 1) m' σ' H') ∧ ∀ x H', (Itr 0 n.toNat).yld i H x H' → gName j x σ H' fun σ2 H2 => tu { D with nx := N, ct := N, bk := D.nx } σ2 H2) :=
  L2.for_range (fun i σ H => ∃ W, W.H = H ∧ Pv i σ W) ⟨W2, rfl, h0⟩ (fun i σ H hi ⟨W', e, p⟩ => by
    subst e
    have := hs i σ W' (by omega) p
    show tu _ (σ.set j (some (.int (0 + (i : Nat))))) W'.H
    rw [Int.zero_add]; exact this) (fun σ H ⟨W', e, p⟩ => by subst e; exact hd σ W' p)
/-- while -/
theorem s_while (Wm : Nat → SS → Wd → Prop) (m0 : Nat) (h0 : Wm m0 σ W)
    (hs : ∀ m σ' W', Wm m σ' W' → ε.I W' ∧ ∃ b, EvT ε t σ' W' b ∧ (b = true → ∀ W'', Stp ε W' W'' → tu { D with nx := fun σ H => ∃ m' W, m' < m ∧ W.H = H ∧ Wm m' σ W, ct := fun σ H => ∃ m' W, m' < m ∧ W.H = H ∧ Wm m' σ W, bk := D.nx } σ' W''.H) ∧ (b = false → ∀ W'', Stp ε W' W'' → D.nx σ' W''.H)) : tWhile t tu D σ W.H := by
  refine ⟨fun m σ H => ∃ W, W.H = H ∧ Wm m σ W, ⟨m0, W, rfl, h0⟩, ?_⟩
  rintro m σ' H ⟨W', rfl, w⟩
  obtain ⟨hI, b, ht, h1, h2⟩ := hs m σ' W' w
  refine ht W' (.start hI) _ fun W'' g => ?_
  cases b with
  | true =>
    rw [if_pos rfl]
    exact ⟨fun σ H => ∃ m' W, m' < m ∧ W.H = H ∧ Wm m' σ W, fun σ2 H2 ⟨m', W, hm, e, q⟩ => ⟨m', hm, W, e, q⟩, h1 rfl W'' g⟩
  | false =>
    rw [if_neg Bool.false_ne_true]
    exact h2 rfl W'' g

/-! ### calls of defs -/
theorem ev_callP1 {P R : V → Wd → Prop} {sp : Sp} {E : XK} (ha : EvP ε ta σ W P) (hs : ∀ v W1, Stp ε W W1 → P v W1 → ∀ Q : VK, (∀ u W2, Stp ε W1 W2 → R u W2 → Q u W2.H) → sp [v] W1.H Q E) : EvP ε (tCall sp [] E (tCons ta tNil)) σ W R := fun W1 g1 Q k =>
  ha W1 g1 _ fun v W2 g2 p => hs v W2 (g1.trans g2) p Q fun u W3 g3 r => k u W3 (g2.trans g3) r
theorem ev_callP2 {P P2 R : V → Wd → Prop} {sp : Sp} {E : XK} (ha : EvP ε ta σ W P) (hb : EvP ε tb σ W P2) (mono : ∀ v W W', Stp ε W W' → P v W → P v W')
    (hs : ∀ v v2 W1, Stp ε W W1 → P v W1 → P2 v2 W1 → ∀ Q : VK, (∀ u W2, Stp ε W1 W2 → R u W2 → Q u W2.H) → sp [v, v2] W1.H Q E) : EvP ε (tCall sp [] E (tCons ta (tCons tb tNil))) σ W R := fun W1 g1 Q k =>
  ha W1 g1 _ fun v W2 g2 p => hb W2 (g1.trans g2) _ fun v2 W3 g3 p2 => hs v v2 W3 ((g1.trans g2).trans g3) (mono v W2 W3 g3 p) p2 Q fun u W4 g4 r => k u W4 ((g2.trans g3).trans g4) r
end
end B
/-! B: short names of readings, more derivations -/
namespace B
open PySem L2
open Evl (Ex)
abbrev oAdd : R2 := rI0 fun i j => .int (i + j)
abbrev oSub : R2 := rI0 fun i j => .int (i - j)
abbrev oMul : R2 := rI CMul fun i j => .int (i * j)
abbrev oDiv : R2 := rI CDiv fun i j => .int (i / j)
abbrev oMod : R2 := rI (fun _ j => 0 < j) fun i j => .int (i % j)
abbrev oPow : R2 := rI CPow fun i j => .int (i ^ j.toNat)
abbrev oLt : R2 := rI0 fun i j => .bl (decide (i < j))
abbrev oLe : R2 := rI0 fun i j => .bl (decide (i ≤ j))
abbrev oGt : R2 := rI0 fun i j => .bl (decide (j < i))
abbrev oGe : R2 := rI0 fun i j => .bl (decide (j ≤ i))
abbrev oNeg : V → Hp → VK → Prop := rU fun i => .int (-i)
abbrev oIsN : R2 := fun x y H Q => y = .non ∧ Q (.bl (decide (x = .non))) H
abbrev oNotN : R2 := fun x y H Q => y = .non ∧ Q (.bl (!decide (x = .non))) H
abbrev oCatS : R2 := fun x y H Q => ∃ i j, x = .str i ∧ y = .str j ∧ i.length + j.length ≤ sizeLine ∧ Q (.str (i ++ j)) H
abbrev oLtS : R2 := fun x y H Q => ∃ i j, x = .str i ∧ y = .str j ∧ Q (.bl (decide (i.cps.toList < j.cps.toList))) H
abbrev oInS : R2 := fun x y H Q => ∃ i j, x = .str i ∧ y = .str j ∧ Q (.bl (!(Builtin.Str.occurrences j i 0 j.length 1).isEmpty)) H
abbrev tTru (K : Fg) (ta : TE) : TT := fun σ H Q => ta σ H fun x H' => ∃ k, TruV K x H' k ∧ Q k H'
abbrev rInt1 : List V → Hp → VK → Prop := fun xs H Q => (∃ i, xs = [.int i] ∧ Q (.int i) H) ∨ ∃ k, xs = [.bl k] ∧ Q (.int (if k then 1 else 0)) H
abbrev rTupleO (K : Fg) : List V → Hp → VK → Prop := fun xs H Q => ∃ p ys, xs = [.ref p] ∧ ((SqL K H p ys ∧ ∀ l, H l = none → Q (.ref l) (upd H l (.tup ys))) ∨ (SqT K H p ys ∧ Q (.ref p) H))
abbrev rLenD : List V → Hp → VK → Prop := fun xs H Q => ∃ a kvs, xs = [V.ref a] ∧ H a = some (.dK kvs) ∧ Q (.int kvs.length) H
theorem cr_tupleO {X : Cx} : CallR X (.type "tuple") (rTupleO X.K) := call_tuple_of
theorem cr_lenD {X : Cx} : CallR X (.builtin "len") rLenD := call_lenD

/-! ### name = {k: v for ..} -/
section
variable {X : Cx}
theorem ps_setDc {i : Nat} {y : Str} {py : Pos} {kx vx tg iter : Expr} {ifs : List Expr} {scope : Scope} {own : List (Str × Nat)} {pos spos : Pos} {wi : TI} {g : TG} {tt : TT} {tk tv : TE} (hc : X.calm = true) (hN : X.N.Nodup) (hy : X.N[i]? = some y) (hyl : X.env.scope.names.lookup y = some .local)
    (hsw : swapsWith (.DictComp kx vx [⟨tg, iter, ifs, 0⟩] scope pos) (some (.Name y py)) spos.line X.env = pure true) (hi : PI X tg iter wi) (ok : BlkOk X.N X.env.scope scope own)
    (hg : ∀ (s : Shared) (H : Hp) (C : Addr) (cl : List (Str × Addr)) (fp : List Addr), PG (X.blk s H scope (compEnvC scope cl C X.env) fp) tg g) (ht : ∀ (s : Shared) (H : Hp) (C : Addr) (cl : List (Str × Addr)) (fp : List Addr), PTs (X.blk s H scope (compEnvC scope cl C X.env) fp) ifs tt)
    (hk : ∀ (s : Shared) (H : Hp) (C : Addr) (cl : List (Str × Addr)) (fp : List Addr), PE (X.blk s H scope (compEnvC scope cl C X.env) fp) kx tk)
    (he : ∀ (s : Shared) (H : Hp) (C : Addr) (cl : List (Str × Addr)) (fp : List Addr), PE (X.blk s H scope (compEnvC scope cl C X.env) fp) vx tv) (hs : ∀ x, foldedSetIterable iter X.env x = pure x := by intro _; rfl) :
    PS X (.Assign [.Name y py] (.DictComp kx vx [⟨tg, iter, ifs, 0⟩] scope pos) spos) (tAsg (tDc wi g tt tk tv (own.map (·.2))) (gName i)) := by
  refine ⟨fun pins s σ H D I h => ?_⟩
  rw [exec_Assign_Name_used _ _ _ _ hsw]
  refine wpAny_bind (wpAny_standAt (wpAny_bind ?_))
  show wpAny _ X.A (do let _ ← comprehension (.DictComp kx vx [⟨tg, iter, ifs, 0⟩] scope pos) scope X.env (firstIterPos [⟨tg, iter, ifs, 0⟩] pos) newDict false (eval iter X.env) (some (assign (.Name y py) X.env))) _ _ s
  have h : tDc wi g tt tk tv (own.map (·.2)) σ H (fun x H1 => gName i x σ H1 D.nx) := h
  refine wpAny_bind (thn (dc_core (Qf := fun _ s' => SP X pins D .next s') hc hN I hi ok hg ht hk he hs h fun L C s' m H' I' q hn f => ?_) fun _ s' hq => wpAny_pure (wpAny_pure hq))
  show wpAny _ _ (assign (.Name y py) X.env (.ref L)) _ _ _
  refine wpAny_assign_Name (store_ok2 (v := V.ref L) I' hN hy (.inl hyl) rfl (fun s2 I2 ⟨a, sb, ha⟩ => ?_) (.inr hyl))
  obtain ⟨f0, f1, f2, f3, f4, f5⟩ := f
  have haC : C ≠ a := by
    rcases ha with z | z
    · rw [z]; exact f1
    · exact fun e => f4 y a z e.symm
  refine ⟨m, hn.sameBut sb haC, fun h3 sb3 => ?_⟩
  exact ⟨_, H', I2.turned (t' := s2.toks) (fun b o hb e => (sb3.2 b hb).trans e) f0 f1 f3 f4 f5, q⟩
theorem sw_trueD {kx vx : Expr} {gs : List Comprehension} {scope : Scope} {pos py : Pos} {y : Str} {l : Nat} {env : Env} (hk : env.scope.kind = .function) (hy : env.scope.names.lookup y = some .local) (hl : (py.line == pos.line) = true)
    (ha : (scope.names.any fun (n, k) => n == y && (k == .local || k == .cell)) = false) : swapsWith (.DictComp kx vx gs scope pos) (some (.Name y py)) l env = pure true := by
  have ky : env.kindOf y = some .local := hy
  have hb : env.blockKind = .function := by unfold Env.blockKind; rw [hk]; rfl
  unfold swapsWith
  simp only [hb, ky, ha, Expr.pos, hl]
  rfl
end

/-! ### f(k = v, ..) -/
def perm {ζ : Type} (l : List Nat) (ws : List ζ) : List ζ := l.filterMap fun i => ws[i]?
theorem perm_rel (l : List Nat) {vs : List V} {us : List Value} (r : Vals vs us) : Vals (perm l vs) (perm l us) := by
  induction l with
  | nil => exact .nil
  | cons i l ih =>
    unfold perm
    rw [List.filterMap_cons, List.filterMap_cons]
    cases e : vs[i]? with
    | none =>
      rw [r.none_of e]
      exact ih
    | some v =>
      obtain ⟨u, h1, h2⟩ := r.get e
      rw [h1]
      exact .cons h2 ih
def KwB (K : Fg) (fd : FuncData) (ps ks : List Str) (l : List Nat) : Prop := ∀ (s : Shared) (ws : List Value), K.In s.heap → ws.length = ks.length → BindsTo s fd ⟨[], ks.zip ws⟩ (ps.zip (perm l ws))
theorem kwb_mk {K : Fg} {x qual : Str} {st : Stmt} {f : Addr} {fd : FuncData} {ps ks : List Str} {l : List Nat} (F : Fun K x qual st f fd)
    (h : ∀ (kV doc pm : Value) (an : Option Addr) (cdv ct : Value) (us : List Value), us.length = ks.length → bindArgs (PySem.W.fnOf x qual (defArgs st) (defBody st) (defScope st) .none kV doc pm an cdv ct) ⟨[], ks.zip us⟩ = pure (ps.zip (perm l us))) : KwB K fd ps ks l := by
  obtain ⟨oc, od, kV, doc, pm, an, cdv, ct, osl, rfl, lk, hcd⟩ := F.ex
  exact fun s ws _ hl => .of_eq (h kV doc pm an cdv ct ws hl)
def tCallKw (sp : Sp) (l : List Nat) (m : Nat) (E : XK) (tk : TA) : TE := fun σ H Q => tk σ H fun zs H2 => zs.length = m ∧ sp (perm l zs) H2 Q E
theorem pe_callKw {X : Cx} {CX : CXT} {k : Nat} {f : Addr} {fd : FuncData} {ps ks : List Str} {l : List Nat} {sp : Sp} {E : XK} {x : Str} {p pos : Pos} {kws : List Keyword} {tk : TA} {m : Nat}
    (F : FnOk X.prog X.w X.K X.mg X.base CX k f fd ps sp) (hr : Room k X.A) (hg : Gl X x) (hm : X.mg x = some (.ref f)) (hk : PySem.W.keepIn X.K (.ref f) = true) (hb : KwB X.K fd ps ks l) (hx : Passes CX X E)
    (hkw : PK X kws tk) (hall : (backToKw pos (keywordEach kws X.env)).all (·.1.isSome) = true := by rfl) (hks : (backToKw pos (keywordEach kws X.env)).filterMap (·.1) = ks := by rfl)
    (hm' : m = ks.length := by rfl) (hdb : (x == ("__debug__" : Str)) = false := by decide)
    (hpl : ((backTo pos (starEach [] X.env)).any (·.1) || (backToKw pos (keywordEach kws X.env)).any (·.1.isNone)) = false := by rfl) :
    PE X (.Call (.Name x p) [] kws pos) (tCallKw sp l m E tk) := by
  subst hm'
  refine ⟨fun pins s σ H Q I h => ?_⟩
  refine wpAny_Call_Name_kw (ld_glob I hg hm ?_ hdb)
  refine PySem.W.callWith_KW0 (h₀ := X.base) I.ok.mod.kin hk hall (thn (hkw.run pos pins s σ H _ I h) fun ws s2 ⟨zs, H2, I2, rz, hl, q2⟩ => ⟨I2.kIn, ?_⟩) hpl
  rw [hks]
  have r2 := perm_rel l rz
  refine wpAny_call (codeAny_mono (F.run X.A X.stack s2 H2 ⟨[], ks.zip ws⟩ (perm l ws) (perm l zs) Q E hr I2.env0 (hb s2 ws I2.kIn (by rw [← rz.length]; exact hl)) r2 q2) fun r s' hq => ?_)
  cases r with
  | error e => exact hx pins σ H2 s2 e s' I2 hq
  | ok fl =>
    cases fl with
    | ret u => exact I2.after hq
    | next => exact False.elim hq
    | brk => exact False.elim hq
    | cont => exact False.elim hq
end B
/-! B: rules that the kit has not: zip of a text and a tuple, sum of a tuple, tuple * 1, d.values() as a value -/
namespace B
open PySem L2 PySem.Spec PyProof.Rows
/-! ### zip(text, tuple) -/
def ItzS (K : Fg) (x : Str) (b : Addr) (n : Nat) : It :=
  ⟨fun i H => i < x.cps.size ∧ i < n ∧ ∃ ys : List V, SqT K H b ys ∧ ys.length = n,
    fun i H v H' => ∃ T c y, v = .ref T ∧ H T = none ∧ H' = upd H T (.tup [.str ⟨#[c]⟩, y]) ∧ x.cps[i]? = some c ∧ ∀ ys, SqT K H b ys → ys[i]? = some y,
    fun i H => (x.cps.size ≤ i ∨ n ≤ i) ∧ ∃ ys : List V, SqT K H b ys ∧ ys.length = n⟩
def ZsTn (x : Str) (t : Tok) (b z TI TO i1 i2 : Addr) (n i : Nat) (h : Heap) : Prop := IsZip h z TI TO .none ∧ IsPair h TI (.ref i1) (.ref i2) ∧ (∃ x y, IsPair h TO x y) ∧ h.IsStrIter i1 (strIterType x) x t i ∧ h.IsTupleIter i2 b i ∧ i ≤ x.cps.size ∧ i ≤ n
theorem ti_ne {h : Heap} {i2 b : Addr} {i : Nat} {its : Array Value} (h2 : h.IsTupleIter i2 b i) (p : IsTup h b its) : b ≠ i2 := fun e => by
  obtain ⟨o, ho, hcls, hdat⟩ := id h2
  obtain ⟨o', ho', hc', _⟩ := p
  rw [e, ho] at ho'
  cases ho'
  rw [hcls] at hc'
  have := Value.type.inj hc'
  revert this
  decide
theorem turn_zipS {P : Program} {w : World} {K : Fg} {elts : List Expr} {kk : Nat} {tpos : Pos} {x : Str} {t : Tok} {b z TI TO i1 i2 : Addr} {n : Nat} (D : ZipSep2 z TI TO i1 i2 [i1] [i2, b]) :
    Turn P w K (.Tuple elts kk tpos) (ItzS K x b n) [z, TI, TO, i1, i2] z (ZsTn x t b z TI TO i1 i2 n) where
  mem := by simp
  obj := fun i h st c hc => by
    obtain ⟨hz, hTI, ⟨x, y, hTO⟩, ⟨o1, e1, _, d1⟩, ⟨o2, e2, _, d2⟩, _, _⟩ := st
    simp only [List.mem_cons, List.not_mem_nil, or_false] at hc
    rcases hc with q | q | q | q | q <;> rw [q]
    · exact ⟨_, hz, fun v q => nomatch q⟩
    · exact ⟨_, hTI, fun v q => nomatch q⟩
    · exact ⟨_, hTO, fun v q => nomatch q⟩
    · exact ⟨o1, e1, fun v q => by rw [d1] at q; cases q⟩
    · exact ⟨o2, e2, fun v q => by rw [d2] at q; cases q⟩
  keep := fun i h h' st k => by
    obtain ⟨hz, hTI, ⟨x, y, hTO⟩, ⟨o1, e1, r1⟩, h2, l1, l2⟩ := st
    exact ⟨k z (by simp) _ hz, k TI (by simp) _ hTI, ⟨x, y, k TO (by simp) _ hTO⟩, ⟨o1, k i1 (by simp) _ e1, r1⟩, h2.at fun o q => k i2 (by simp) o q, l1, l2⟩
  item := by
    intro X hP hw hK hc i pins s σ H E I hf st hg
    subst hP hw hK
    obtain ⟨hz, hTI, ⟨x0, y0, hTO⟩, h1, h2, l1, l2⟩ := st
    obtain ⟨g1, g2, ys, hqy, hn⟩ := hg
    obtain ⟨its, rv, p, _⟩ := I.tuple hqy
    have hl : its.length = n := by rw [← rv.length]; exact hn
    have hd : X.A.in1.handled = none := I.ok.hd hc
    refine wpAny_pyNext_zipD2_item D (Draws.text hd i1 x t) (Draws.tuple hd i2 b (ti_ne h2 p) its.toArray) hz hTI hTO h1 ⟨h2, p⟩ g1 (by simpa [hl] using g2) fun u1 u2 h' tk y1 y2 b1 b2 d1 d2 b5 b6 hk => ?_
    have hzl : z < s.heap.objs.size := Heap.lt_size hz
    obtain ⟨c, tc, hcx, rfl⟩ := y1
    obtain ⟨y, hy, ry⟩ : ∃ y, ys[i]? = some y ∧ RelV y u2 := by
      have e2 : its[i]? = some u2 := by simpa using y2
      have hy : ys[i]? = some (ys[i]'(by omega)) := List.getElem?_eq_getElem (by omega)
      obtain ⟨u, e3, r⟩ := rv.get hy
      rw [e2] at e3
      cases e3
      exact ⟨_, hy, r⟩
    refine ⟨_, rfl, wpAny_letOwnedTupleGo_zip (s := { s with heap := h', toks := tk }) b1 fun h'' z'' sb => ?_⟩
    have hT2 : h''.get? s.heap.objs.size = some { cls := .type "tuple", data := .seq #[.str ⟨#[c]⟩ tc, u2] } := (sb.2 _ (Nat.ne_of_gt hzl)).trans b5
    have new : ObjOk X.prog X.w (upd H s.heap.objs.size (.tup [.str ⟨#[c]⟩, y])) h'' s.heap.objs.size (.tup [.str ⟨#[c]⟩, y]) :=
      ⟨by show 2 ≤ sizeLine; decide, [.str ⟨#[c]⟩ tc, u2], .cons ⟨tc, rfl⟩ (.cons ry .nil), ⟨_, hT2, rfl, _, rfl⟩⟩
    have I1 : Inv X pins σ (upd H s.heap.objs.size (.tup [.str ⟨#[c]⟩, y])) { s with heap := h'', toks := tk } :=
      I.turnedNew (t' := tk) (ch := [z, TI, TO, i1, i2]) (fun c o hb q => (sb.2 c (fun q' => hb (by simp [q']))).trans (hk c o (fun q' => hb (by simp [q'])) (fun q' => hb (by simp [q'])) (fun q' => hb (by simp [q'])) (fun q' => hb (by simp [q'])) q)) hf (Nat.le_refl _) new
    refine ⟨.ref s.heap.objs.size, _, I1, rfl, ⟨_, c, y, rfl, I.hok.fresh (Nat.le_refl _), rfl, hcx, fun l hl => by rw [I.tuple_inj hl hqy]; exact hy⟩, ⟨z'', ?_, ⟨Value.str ⟨#[c]⟩ tc, u2, ?_⟩, ?_, ?_, by omega, by omega⟩, fun c hcm => ?_⟩
    · exact (sb.2 _ D.TIz).trans (hk _ _ D.TIz D.TITO D.TIi1 D.TIi2 hTI)
    · exact (sb.2 _ D.TOz).trans b2
    · obtain ⟨o, ho, r⟩ := d1
      exact ⟨o, (sb.2 _ D.zi1.symm).trans ho, r⟩
    · exact d2.1.at fun o q => (sb.2 _ D.zi2.symm).trans q
    · have hlt : c < s.heap.objs.size := by
        simp only [List.mem_cons, List.not_mem_nil, or_false] at hcm
        rcases hcm with q | q | q | q | q <;> rw [q]
        · exact hzl
        · exact Heap.lt_size hTI
        · exact Heap.lt_size hTO
        · obtain ⟨_, e1, _⟩ := h1; exact Heap.lt_size e1
        · obtain ⟨_, e2, _⟩ := h2; exact Heap.lt_size e2
      rw [upd_ne (Nat.ne_of_lt hlt)]
      exact (hf c hcm).1
  done := by
    intro X hP hw hK hc i pins s σ H E I hf st hg
    subst hP hw hK
    obtain ⟨hz, hTI, ⟨x0, y0, hTO⟩, h1, h2, l1, l2⟩ := st
    obtain ⟨hend, ys, hqy, hn⟩ := hg
    obtain ⟨its, rv, p, _⟩ := I.tuple hqy
    have hl : its.length = n := by rw [← rv.length]; exact hn
    have hd : X.A.in1.handled = none := I.ok.hd hc
    have hne : b ≠ i2 := ti_ne h2 p
    have hs : its.toArray.size = n := by simpa using hl
    exact wpAny_pyNext_zipD2_end D (Draws.text hd i1 x t) (Draws.tuple hd i2 b hne its.toArray) hz hTI hTO h1 ⟨h2, p⟩ l1 (by omega) (by omega) fun h' tk hk => ⟨rfl, I.turnedL (t' := tk) (ch := [z, TI, TO, i1, i2]) (fun c o hb q =>
      hk c o (fun q' => hb (by simp [q'])) (fun q' => hb (by simp [q'])) (fun q' => hb (by simp [q'])) (fun q' => hb (by simp [q'])) q) hf⟩
  self := fun A i s Q E st h => wpAny_pyIter_zip st.1 h
theorem zsep {n b : Nat} (h : b < n) : ZipSep2 (n + 4) (n + 2) (n + 3) n (n + 1) [n] [n + 1, b] where
  TIz := Nat.ne_of_lt (by omega)
  TOz := Nat.ne_of_lt (by omega)
  TITO := Nat.ne_of_lt (by omega)
  TIi1 := Nat.ne_of_gt (by omega)
  mem1 := List.mem_cons_self
  zf1 := fun q => absurd (List.mem_singleton.mp q) (Nat.ne_of_gt (by omega))
  Tf1 := fun q => absurd (List.mem_singleton.mp q) (Nat.ne_of_gt (by omega))
  TIi2 := Nat.ne_of_gt (by omega)
  mem2 := List.mem_cons_self
  zf2 := fun q => by rcases List.mem_cons.mp q with e | q; exact absurd e (Nat.ne_of_gt (by omega)); exact absurd (List.mem_singleton.mp q) (Nat.ne_of_gt (by omega))
  Tf2 := fun q => by rcases List.mem_cons.mp q with e | q; exact absurd e (Nat.ne_of_gt (by omega)); exact absurd (List.mem_singleton.mp q) (Nat.ne_of_gt (by omega))
  sep1_2 := fun q => by rcases List.mem_cons.mp q with e | q; exact absurd e (Nat.ne_of_lt (by omega)); exact absurd (List.mem_singleton.mp q) (Nat.ne_of_gt (by omega))
  sep2_1 := fun q => absurd (List.mem_singleton.mp q) (Nat.ne_of_gt (by omega))
def iZipS (K : Fg) (ta : TA) : TI := fun σ H R => ta σ H fun vs H1 => ∃ x b ys, vs = [.str x, .ref b] ∧ SqT K H1 b ys ∧ R (ItzS K x b ys.length) H1
theorem pi_zipS {X : Cx} {e e2 : Expr} {ta : TA} {p pos tpos : Pos} {elts : List Expr} {kk : Nat} (hg : Gl X "zip") (hm : X.mg "zip" = none) (ha : PA X [e, e2] ta)
    (hs : starEach [e, e2] X.env = (false, eval e X.env) :: starEach [e2] X.env := by rfl) (hpl : (backTo pos (starEach [e2] X.env)).any (·.1) = false := by rfl) :
    PI X (.Tuple elts kk tpos) (.Call (.Name "zip" p) [e, e2] [] pos) (iZipS X.K ta) := by
  refine ⟨fun pins s σ H R I h => ?_⟩
  refine Call_ (ld_blt I hg hm PyProof.Rows.boot_zip (PyProof.Rows.callWith_type1 (thn (ha.run pos pins s σ H _ I h) fun us s1 ⟨vs, H1, I1, r1, q1⟩ => ?_) hs hpl))
  obtain ⟨x, b, ys, ex, hqy, q⟩ := q1
  subst ex
  cases r1 with
  | cons r rr =>
    cases rr with
    | cons r' rr =>
      cases rr
      obtain ⟨t, rfl⟩ := r
      cases r'
      obtain ⟨its, rv, p, _⟩ := I1.tuple hqy
      have lb : b < s1.heap.objs.size := by obtain ⟨o, ho, _⟩ := id p; exact Heap.lt_size ho
      refine zip_begins2 (begins_text x t) (begins_tuple b its.toArray) trivial p fun h' hz hTI hTO g1 g2 hsz hk => wpAny_pyIter_zip hz ?_
      have I2 : Inv X pins σ H1 { s1 with heap := h' } := I1.kept (t' := s1.toks) hk
      have fresh5 : ∀ c, c ∈ [s1.heap.objs.size + 4, s1.heap.objs.size + 2, s1.heap.objs.size + 3, s1.heap.objs.size, s1.heap.objs.size + 1] → FpOk X pins H1 c := fun c hcm => by
        have hle : s1.heap.objs.size ≤ c := by
          simp only [List.mem_cons, List.not_mem_nil, or_false] at hcm
          omega
        exact I1.fpOk hle (I1.hok.fresh hle)
      exact ⟨s1.heap.objs.size + 4, [s1.heap.objs.size + 4, s1.heap.objs.size + 2, s1.heap.objs.size + 3, s1.heap.objs.size, s1.heap.objs.size + 1], _, _, H1, rfl, I2, turn_zipS (t := t) (i1 := s1.heap.objs.size) (i2 := s1.heap.objs.size + 1) (TI := s1.heap.objs.size + 2) (TO := s1.heap.objs.size + 3) (zsep lb), ⟨hz, hTI, ⟨_, _, hTO⟩, ⟨_, g1, rfl, rfl⟩, ⟨_, g2, rfl, rfl⟩, Nat.zero_le _, Nat.zero_le _⟩, fresh5, q⟩

/-! ### d.values() as a value -/
def viewHO (v a : Addr) : HO := .ext fun h => h.get? v = some { cls := .type "dict_values", data := .fields #[.ref a] }
def tVals (td : TE) : TE := fun σ H Q => td σ H fun x H1 => ∃ a kvs, x = V.ref a ∧ H1 a = some (.dK kvs) ∧ ∀ v, H1 v = none → Q (.ref v) (upd H1 v (viewHO v a))
section
variable {X : Cx} {o : Expr} {apos mpos : Pos} {td : TE}
theorem pe_vals (hd : PE X o td) (hbase : attributeBase o "values" X.env (eval o X.env) = eval o X.env := by rfl) (hline : (apos.endLine == mpos.line) = true := by rfl) : PE X (.Call (.Attribute o "values" apos) [] [] mpos) (tVals td) := by
  refine ⟨fun pins s σ H Q I h => ?_⟩
  refine wpAny_Call_method0_late hbase hline (thn (hd.run pins s σ H _ I h) fun v s1 ⟨x, H1, I1, r1, a, kvs, ex, ha, q⟩ => ?_)
  subst ex
  obtain rfl : v = Value.ref a := r1
  obtain ⟨_, hsys, vs, rel, dof⟩ := dk_of I1.hok ha
  obtain ⟨ep, dat⟩ := dof.dictAt
  obtain ⟨ob, es, ho, ex, hdat, hko, hpr, hnd⟩ := dat
  refine ⟨"dict", "dict.values", F.plainAttrs_dict, F.slot_dict_values, F.type_dict_values, ⟨ob, ho, ex.1⟩, fun b e => ?_, Calls.callWith_builtin rfl (PySem.evalArgs_none ?_)⟩
  · cases e
    exact ⟨ob, ho, ex.2.1⟩
  refine call_meetsIn F.slot_dict_values ⟨ob, ho, ex.1⟩ F.entry_dict_values (F.args_dict_values_1 _) (meets_dict_values (mixKind X.prog X.w) a hsys) ⟨⟨vs, dof⟩, ?_⟩
  have k1 : ∀ b u, s1.heap.get? b = some u → (s1.heap.push { cls := .type "dict_values", data := .fields #[.ref a] }).get? b = some u := fun b u e => Heap.get?_push_of_some _ e
  have new : ObjOk X.prog X.w (upd H1 s1.heap.objs.size (viewHO s1.heap.objs.size a)) (s1.heap.push { cls := .type "dict_values", data := .fields #[.ref a] }) s1.heap.objs.size (viewHO s1.heap.objs.size a) :=
    ⟨Heap.get?_push_size _ rfl, ⟨_, Heap.get?_push_size _ rfl⟩, fun h1 h2 e k => k _ e⟩
  exact ⟨.ref _, _, I1.laid (t' := s1.toks) k1 (Nat.le_refl _) new, rfl, q _ (I1.hok.fresh (Nat.le_refl _))⟩
/-- the ints of a dict's values, by the view -/
theorem view_at {pins : List (Addr × Obj)} {s : Shared} {σ : L2.St} {H : Hp} (I : L2.Inv X pins σ H s) {v a : Addr} {kvs : List (Key × V)} {is : List Int} (hv : H v = some (viewHO v a)) (ha : H a = some (.dK kvs)) (hi : kvs.map (·.2) = is.map V.int) :
    ∃ vs ep, s.heap.get? v = some { cls := .type "dict_values", data := .fields #[.ref a] } ∧ s.heap.DictAt (mixKind X.prog X.w) a vs ep ∧ vs.length = is.length ∧ kvs.length ≤ sizeLine ∧ ∀ (i : Nat) (u : Value), (∃ k, vs[i]? = some (k, u)) → ∃ x t, is[i]? = some x ∧ u = Value.int x t := by
  obtain ⟨e, _, _⟩ := I.hok v _ hv
  obtain ⟨z, hsys, vs, rel, dof⟩ := dk_of I.hok ha
  obtain ⟨ep, dat⟩ := dof.dictAt
  refine ⟨vs, ep, e, dat, ?_, z, fun i u ⟨k, hk⟩ => ?_⟩
  · have e1 := congrArg List.length hi
    rw [List.length_map, List.length_map] at e1
    rw [← e1]
    exact (KV.length rel).symm
  · obtain ⟨x, h1, h2⟩ := KV.at' rel hk
    have e1 : (kvs.map (·.2))[i]? = some x := by rw [List.getElem?_map, h1] <;> rfl
    rw [hi, List.getElem?_map] at e1
    obtain ⟨j, hj, e2⟩ := Option.map_eq_some_iff.mp e1
    subst e2
    obtain ⟨t, e3⟩ := h2
    exact ⟨j, t, hj, e3⟩
/-- sum(d.values()) -/
def rSumV : List V → Hp → VK → Prop := fun vs H Q => ∃ (v a : Addr) (kvs : List (Key × V)) (is : List Int), vs = [V.ref v] ∧ H v = some (viewHO v a) ∧ H a = some (.dK kvs) ∧ kvs.map (·.2) = is.map V.int ∧ Q (.int is.sum) H
theorem preSum_getD (is : List Int) : ∀ n, n ≤ is.length → preSum (fun i => is.getD i 0) n = (is.take n).sum
  | 0, _ => by simp [preSum]
  | n + 1, h => by
    show preSum _ n + is.getD n 0 = _
    rw [preSum_getD is n (by omega), List.take_add_one, List.getElem?_eq_getElem (by omega), List.sum_append]
    simp [List.getD_eq_getElem?_getD, List.getElem?_eq_getElem (show n < is.length by omega)]
theorem cr_sumV (hc : X.calm = true) : CallR X (.builtin "sum") rSumV := by
  intro pins s σ H xs us Q I r h
  obtain ⟨v, a, kvs, is, rfl, hv, ha, hi, q⟩ := h
  obtain rfl := Vals.ref1 r
  obtain ⟨vs, ep, e, dat, hl, _, hval⟩ := view_at I hv ha hi
  refine call_sum_walkAnyS ?_
  obtain ⟨oI, St, hit, W, st⟩ := (PySem.W.kdl_values (prog := X.prog) (w := X.w) (knd := mixKind X.prog X.w) (d := a) (r := v) (kvs := vs) (ep := ep)).iter X.A.in1 s (I.ok.hd hc) ⟨⟨_, e, rfl, rfl⟩, dat⟩
  refine hit _ _ ⟨s.heap.objs.size, _, _, _, vs.length, _, _, fun i => is.getD i 0, rfl, W.toS, st, fun b hb => ?_, fun i u hu => ?_, fun s' t' hm => ?_⟩
  · show b < (s.heap.push oI).objs.size
    rw [Heap.size_push]
    rcases List.mem_cons.mp hb with e' | hb
    · rw [e']; exact Nat.lt_succ_self _
    · rw [List.mem_singleton.mp hb]; exact Nat.lt_succ_of_lt (by obtain ⟨ob, es, ho, _⟩ := id dat; exact Heap.lt_size ho)
  · obtain ⟨x, t, h1, h2⟩ := hval i u hu
    exact ⟨t, by rw [h2]; show Value.int x t = Value.int (is.getD i 0) t; rw [List.getD_eq_getElem?_getD, h1]; rfl⟩
  · have hk : ∀ b o, s.heap.get? b = some o → s'.heap.get? b = some o := fun b o e =>
      hm.heap b o (fun hI => absurd (Heap.lt_size e) (by rw [List.mem_singleton.mp hI]; exact Nat.lt_irrefl _)) (Heap.get?_push_of_some _ e)
    rw [Moved.eq_with hm]
    refine ⟨.int is.sum, H, I.kept hk, ⟨t', ?_⟩, q⟩
    rw [hl, preSum_getD is _ (Nat.le_refl _), List.take_length]
end

/-! ### sorted(d.values(), reverse=True) -/
section
variable {X : Cx}
def rSortedVR : List V → List V → Hp → VK → Prop := fun vs zs H Q => ∃ (v a : Addr) (kvs : List (Key × V)) (is : List Int), vs = [V.ref v] ∧ zs = [.bl true] ∧ H v = some (viewHO v a) ∧ H a = some (.dK kvs) ∧ kvs.map (·.2) = is.map V.int ∧
  ∀ (ns' : List Int) (p : Addr), ns'.Perm is → OrdB true ns' → H p = none → Q (.ref p) (upd H p (.lst (ns'.map V.int)))
theorem cr_sortedVR (hc : X.calm = true) : CallRK X (.builtin "sorted") [Str.ofString "reverse"] rSortedVR := by
  intro pins s σ H xs zs us ws Q I r rz h
  obtain ⟨v, a, kvs, is, rfl, rfl, hv, ha, hi, q⟩ := h
  obtain rfl := Vals.ref1 r
  obtain ⟨w1, rfl, e1⟩ := vals1 rz
  obtain rfl : w1 = Value.bool true := e1
  obtain ⟨vs, ep, e, dat, hl, hz, hval⟩ := view_at I hv ha hi
  have hz2 : vs.length ≤ sizeLine := by
    rw [hl]
    have := congrArg List.length hi
    rw [List.length_map, List.length_map] at this
    rw [← this]; exact hz
  refine call_function_entry_kw kind_sorted plain_sorted entry_sorted (PyProof.Rows.args_sorted_rev _ _) ?_
  unfold Builtin.«sorted»
  refine wpAny_bind (m := checkCount "sorted" 1 1 _) (wpAny_pure ?_)
  refine wpAny_bind (PySem.W.kdu_collect (A := X.A.in1) (PySem.W.kdl_values (prog := X.prog) (w := X.w) (knd := mixKind X.prog X.w) (d := a) (r := v) (kvs := vs) (ep := ep)) (I.ok.hd hc) ⟨⟨_, e, rfl, rfl⟩, dat⟩ hz2 fun h' tk acc hk hacc => ?_)
  have hal : acc.toList.length = is.length := by rw [Array.length_toList, hacc.1, hl]
  have hS : IntsAre acc.toList is := ints_each hal fun j u e => hval j u (hacc.2 j u (by rw [← Array.getElem?_toList]; exact e))
  have I1 : Inv X pins σ H { s with heap := h', toks := tk } := I.kept hk
  refine wpAny_bind (wpAny_newList ?_ (by rw [hal, ← hl]; exact hz2))
  have hoL : (h'.push (seqObj "list" acc.toList.toArray 0)).get? h'.objs.size = some (seqObj "list" acc.toList.toArray 0) := Heap.get?_push_size _ rfl
  show wpAny _ _ _ _ _ { s with heap := h'.push (seqObj "list" acc.toList.toArray 0), toks := tk }
  refine wpAny_bind (wpAny_holding (wpAny_call_entry_kw slot_list_sort ⟨_, hoL, rfl⟩ entry_list_sort ?_ (PyProof.Rows.args_list_sort_rev _ _)))
  refine SrtR.list_sort_ordR (b := true) SrtO.swo_int hoL (by rw [hal, ← hl]; exact hz2) (fun h2 => SrtO.ints_sortable hS h2) fun out h1 h2 => ⟨_, rfl, ?_⟩
  obtain ⟨ns', k1, k2, k3⟩ := SrtR.ints_outR (b := true) hS h1 h2
  obtain ⟨e', he'⟩ := PyProof.Rows.sortedHeap_at (vs := acc.toList) (out := out.toArray.reverse) hoL
  have hlen : (ns'.map V.int).length ≤ sizeLine := by
    rw [List.length_map, k2.length_eq, ← hl]
    exact hz2
  refine wpAny_pure ⟨_, rfl, .ref h'.objs.size, upd H h'.objs.size (.lst (ns'.map V.int)), I1.laid (t' := tk) (fun b u e => ?_) (Nat.le_refl _)
    (show ObjOk X.prog X.w _ _ _ (.lst (ns'.map V.int)) from ⟨hlen, out.toArray.reverse.toList, e', vals_of_ints k1, by rw [Array.toArray_toList]; exact he'⟩), rfl, q ns' _ k2 k3 (I1.hok.fresh (Nat.le_refl _))⟩
  have hb : b < h'.objs.size := Heap.lt_size e
  show (sortedHeap _ _ _ out.toArray.reverse).get? b = _
  rw [PyProof.Rows.sortedHeap_old (Nat.ne_of_lt hb) (by rw [size_push']; exact Nat.lt_succ_of_lt hb)]
  exact Heap.get?_push_of_some _ e
/-! ### sum(tuple) -/
def rSumT (K : Fg) : List V → Hp → VK → Prop := fun vs H Q => ∃ (a : Addr) (ns : List Int), vs = [V.ref a] ∧ SqT K H a (ns.map V.int) ∧ Q (.int ns.sum) H
theorem cr_sumT (hc : X.calm = true) : CallR X (.builtin "sum") (rSumT X.K) := by
  intro pins s σ H xs us Q I r h
  obtain ⟨a, ns, rfl, hs, q⟩ := h
  obtain ⟨its, rv, hl, _⟩ := I.tuple hs
  obtain rfl := Vals.ref1 r
  have hi := rv.ints
  obtain ⟨xs, hx⟩ := hi.allInts.items
  have hn : numsOf its.toArray.toList = ns := by rw [show its.toArray.toList = its from rfl, hi.numsOf]
  have hl' : s.heap.IsTuple a its.toArray := hl
  rw [hx] at hl' hn
  rw [nums_intItems] at hn
  refine PySem.W.ktm_sumG (I.ok.hd hc) hl' fun h' tk t' hk => ⟨.int ns.sum, H, I.kept hk, ⟨t', ?_⟩, q⟩
  rw [preSum_eq, List.take_of_length_le (by simp), hn]
/-! ### tuple * k, k from 1 on -/
theorem tuple_mul1 (l : Addr) (items : Array Value) (n : Nat) (dd : Option Addr) (sl : Array (Option Value)) (u : Tok) :
    Meets (Builtin.«tuple.__mul__» ⟨[.ref l, .int 1 u], []⟩) (fun _ R s => s.heap.get? l = some { cls := .type "tuple", dict := dd, data := .seq items n, slots := sl } ∧ R (.ok (.ret (Value.ref l))) s) :=
  .of_wp fun prog w A R s h => by
    obtain ⟨hp, g, d, tk, os⟩ := s
    obtain ⟨hl, h⟩ := h
    have f1 := AutoSeq1.idx_int
    have hT : (⟨hp, g, d, tk, os⟩ : Shared).TypeIs (.ref l) "tuple" := ⟨_, hl, rfl⟩
    wp_walk using wpAny_loadPart' hl
    exact ⟨_, rfl, h⟩
def rRepT1 (K : Fg) : R2 := fun x y H Q => ∃ l k xs, x = .ref l ∧ y = .int k ∧ SqT K H l xs ∧ xs ≠ [] ∧ 1 ≤ k ∧ k ≤ 1000 ∧ xs.length ≤ 1000 ∧ (k = 1 → Q (.ref l) H) ∧ (2 ≤ k → ∀ p, H p = none → Q (.ref p) (upd H p (.tup (List.replicate k.toNat xs).flatten)))
theorem op_repT1 : OpR X (binaryOp .Mult) (rRepT1 X.K) := by
  intro pins s σ H x y v u Q I rx ry h
  obtain ⟨l, k, xs, rfl, rfl, hT, hne, h1, h2, hz, q1, q2⟩ := h
  by_cases hk : k = 1
  · cases rx
    obtain ⟨t, rfl⟩ := ry
    subst hk
    obtain ⟨its, r, ⟨⟨cls, dd, data, sl⟩, ho, hc, n, hd⟩, hs⟩ := I.tuple hT
    simp only at hc hd
    subst hc hd
    exact wpAny_binaryOp_repeat_ref (T := "tuple") (U := "int") (by decide) ⟨_, ho, rfl⟩ (fun s' => typeIs_int s' 1 t) noFill_tuple_mul F.fills_int_mul F.slot_int_rmul repeat_tuple F.slot_int_index.lookup
      (call_meets F.slot_int_rmul (typeIs_int s 1 t) F.entry_int_rmul (F.args_int_rmul_2 _ _) (int_rmul_tuple 1 t l its.toArray n dd sl)
        ⟨ho, rfl, ⟨_, ho, rfl⟩, call_meets F.slot_tuple_mul ⟨_, ho, rfl⟩ F.entry_tuple_mul (F.args_tuple_mul_2 _ _) (tuple_mul1 l its.toArray n dd sl t) ⟨ho, .ref l, H, I, rfl, q1 rfl⟩⟩)
  · exact op_repT pins s σ H _ _ v u Q I rx ry ⟨l, k, xs, rfl, rfl, hT, hne, by omega, h2, hz, q2 (by omega)⟩
end
end B
/-! B: the layer over the rules of Bt; dicts that change -/
namespace B
open PySem L2
open PySem.W (Tup T3 T4 Datum DatumOrd)
open Evl (Ex)
section
variable {α β γ : Type} [Py α] [Py β] [Py γ] {K : Fg} {σ : SS} {W W' : Wd} {v : V} {te ta tb : TE} {ε : Ef}
theorem ro_cat {xs ys : List α} (hl : xs.length + ys.length ≤ 100000) : RO K rCat xs ys (xs ++ ys) := fun v u W1 ⟨a, vs, e, s, r⟩ ⟨b, us, e', s', r'⟩ Q k =>
  ⟨a, b, vs, us, e, e', W1.sub.el s, W1.sub.el s', Evl.sz_of (by rw [Reps.len r, Reps.len r']; exact hl), fun p hp =>
    k _ (W1.add p _) (W1.grow_add hp) ⟨p, _, rfl, upd_same, Reps.app (Reps.mono (exExt (W1.grow_add hp).b) r) (Reps.mono (exExt (W1.grow_add hp).b) r')⟩⟩
theorem reps_nil {H : Hp} {vs : List V} {xs : List α} (r : Reps K H vs xs) (h : vs = []) : xs = [] := by
  cases r with
  | nil => rfl
  | cons a b => cases h
theorem ro_catT {xs ys : Tup α} (hl : xs.items.length + ys.items.length ≤ 100000) : RO K (rCatA K) xs ys (Tup.mk (xs.items ++ ys.items)) := fun v u W1 ⟨a, vs, e, s, r⟩ ⟨b, us, e', s', r'⟩ Q k =>
  ⟨a, b, vs, us, e, e', SqT.of (W1.sub.et s), SqT.of (W1.sub.et s'), Evl.sz_of (by rw [Reps.len r, Reps.len r']; exact hl),
    fun h0 => k _ W1 (.refl _ _) ⟨b, us, rfl, s', by rw [reps_nil r h0]; exact r'⟩,
    fun _ h0 => k _ W1 (.refl _ _) ⟨a, vs, rfl, s, by rw [reps_nil r' h0, List.append_nil]; exact r⟩,
    fun _ _ p hp => k _ (W1.add p _) (W1.grow_add hp) ⟨p, _, rfl, upd_same, Reps.app (Reps.mono (exExt (W1.grow_add hp).b) r) (Reps.mono (exExt (W1.grow_add hp).b) r')⟩⟩
theorem rc_sumT {xs : Tup Int} : RC1 K (rSumT K) xs xs.items.sum := fun v W1 ⟨a, vs, e, s, r⟩ Q k => ⟨a, xs.items, by rw [e], by rw [← reps_int r]; exact SqT.of (W1.sub.et s), k _ W1 (.refl _ _) rfl⟩
theorem reps_rep {H : Hp} {vs : List V} {xs : List α} (r : Reps K H vs xs) : ∀ n : Nat, Reps K H (List.replicate n vs).flatten (List.replicate n xs).flatten
  | 0 => .nil
  | n + 1 => by
    rw [List.replicate_succ, List.replicate_succ, List.flatten_cons, List.flatten_cons]
    exact Reps.app r (reps_rep r n)
theorem ro_repT {xs : Tup α} {n : Int} (hne : xs.items ≠ []) (h1 : 1 ≤ n) (h2 : n ≤ 1000) (hl : xs.items.length ≤ 1000) : RO K (rRepT1 K) xs n (Tup.mk (List.replicate n.toNat xs.items).flatten) := fun v u W1 ⟨a, vs, e, s, r⟩ ru Q k =>
  ⟨a, n, vs, e, ru, SqT.of (W1.sub.et s), fun z => hne (reps_nil r z), h1, h2, by rw [Reps.len r]; exact hl, fun h => k _ W1 (.refl _ _) ⟨a, vs, rfl, s, by
      subst h
      simpa using r⟩, fun _ p hp => k _ (W1.add p _) (W1.grow_add hp) ⟨p, _, rfl, upd_same, Reps.mono (exExt (W1.grow_add hp).b) (reps_rep r _)⟩⟩
theorem rc_tupL {xs : List α} : RC1 K (rTupleO K) xs (Tup.mk xs) := fun v W1 ⟨a, vs, e, s, r⟩ Q k => ⟨a, vs, by rw [e], .inl ⟨SqL.of (W1.sub.el s), fun l hl =>
  k _ (W1.add l (.tup vs)) (W1.grow_add hl) ⟨l, vs, rfl, upd_same, Reps.mono (exExt (W1.grow_add hl).b) r⟩⟩⟩
/-- zip of two tuples -/
theorem ei_zipT {xs : Tup α} {ys : Tup β} (ha : EvR ε K ta σ W xs) (hb : EvR ε K tb σ W ys) : EvJ ε K (RZ.iZipA K (tCons ta (tCons tb tNil))) σ W (xs.items.zip ys.items) := fun W1 g1 R k => ha W1 g1 _ fun v W2 g2 r1 => hb W2 (g1.trans g2) _ fun u W3 g3 r2 => by
  obtain ⟨a, vs, e, s, r⟩ := rep_s g3 r1
  obtain ⟨b, us, e', s', r'⟩ := r2
  refine ⟨a, b, vs, us, by rw [e, e'], .inr ⟨SqT.of (W3.sub.et s), SqT.of (W3.sub.et s'), k (RZ.ItzT K a b) W3 (g2.trans g3) ⟨fun i W' o hi => ?_, fun i W' v H'' o hi ⟨T, x, y, e1, hT, e2, e3, e4⟩ => ?_, fun i W' o hi => ?_⟩⟩⟩
  · have hi' : i < xs.items.length ∧ i < ys.items.length := by simp at hi; omega
    obtain ⟨x, hx⟩ : ∃ x, xs.items[i]? = some x := ⟨xs.items[i], by simp [hi'.1]⟩
    obtain ⟨y, hy⟩ : ∃ x, ys.items[i]? = some x := ⟨ys.items[i], by simp [hi'.2]⟩
    obtain ⟨v, h1, _⟩ := Reps.get' r hx
    obtain ⟨u, h2, _⟩ := Reps.get' r' hy
    exact ⟨vs, us, v, u, SqT.of (W'.sub.et (o.b _ _ s)), SqT.of (W'.sub.et (o.b _ _ s')), h1, h2⟩
  · obtain ⟨p, h1, h2⟩ := Reps.get r (e3 vs (SqT.of (W'.sub.et (o.b _ _ s))))
    obtain ⟨q, h3, h4⟩ := Reps.get r' (e4 us (SqT.of (W'.sub.et (o.b _ _ s'))))
    refine ⟨(p, q), W'.add T _, e2.symm, W'.grow_add hT, ?_, T, x, y, e1, upd_same, rep_g (W'.grow_add hT) (rex o.b h2), rep_g (W'.grow_add hT) (rex o.b h4)⟩
    rw [List.getElem?_zip_eq_some]
    exact ⟨h1, h3⟩
  · refine ⟨vs, us, SqT.of (W'.sub.et (o.b _ _ s)), SqT.of (W'.sub.et (o.b _ _ s')), ?_⟩
    rw [Reps.len r, Reps.len r']
    simp at hi
    omega
def signs (x : Str) : List Str := x.cps.toList.map fun c => ⟨#[c]⟩
/-- zip of a text and a tuple -/
theorem ei_zipS {x : Str} {ys : Tup β} (ha : EvR ε K ta σ W x) (hb : EvR ε K tb σ W ys) : EvJ ε K (iZipS K (tCons ta (tCons tb tNil))) σ W ((signs x).zip ys.items) := fun W1 g1 R k => ha W1 g1 _ fun v W2 g2 r1 => hb W2 (g1.trans g2) _ fun u W3 g3 r2 => by
  have e : v = .str x := r1
  obtain ⟨b, us, e', s', r'⟩ := r2
  have hl := Reps.len r'
  have hs : (signs x).length = x.cps.size := by simp [signs]
  refine ⟨x, b, us, by rw [e, e'], SqT.of (W3.sub.et s'), k (ItzS K x b us.length) W3 (g2.trans g3) ⟨fun i W' o hi => ?_, fun i W' v H'' o hi ⟨T, c, y, e1, hT, e2, e3, e4⟩ => ?_, fun i W' o hi => ?_⟩⟩
  · rw [List.length_zip, hs] at hi
    exact ⟨by omega, by omega, us, SqT.of (W'.sub.et (o.b _ _ s')), rfl⟩
  · obtain ⟨q, h3, h4⟩ := Reps.get r' (e4 us (SqT.of (W'.sub.et (o.b _ _ s'))))
    refine ⟨(⟨#[c]⟩, q), W'.add T _, e2.symm, W'.grow_add hT, ?_, T, _, y, e1, upd_same, rfl, rep_g (W'.grow_add hT) (rex o.b h4)⟩
    rw [List.getElem?_zip_eq_some]
    refine ⟨?_, h3⟩
    unfold signs
    rw [List.getElem?_map, Array.getElem?_toList, e3]
    rfl
  · rw [List.length_zip, hs] at hi
    exact ⟨by omega, us, SqT.of (W'.sub.et (o.b _ _ s')), rfl⟩
theorem kreps_ints {κ : Type} [PyKey κ] {H : Hp} {ks : List (Key × V)} {kv : List (κ × Int)} (r : KReps K H ks kv) : ks.map (·.2) = (kv.map (·.2)).map V.int := by
  induction r with
  | nil => rfl
  | cons a b ih => rw [List.map_cons, List.map_cons, List.map_cons, ih, show _ = _ from a.2]
/-- sorted(d.values(), reverse=True): what falls with the same items -/
theorem ev_sortedVR {κ : Type} [PyKey κ] {d : Dict κ Int} {ys : List Int} (h : EvD ε K te σ W d) (hp : ys.Perm (d.kv.map (·.2))) (ho : ys.Pairwise (· ≥ ·)) : EvR ε K (tCKw rSortedVR (tCons (tVals te) tNil) (tCons (tC (.bl true)) tNil)) σ W ys := fun W1 g1 Q k => h W1 g1 _ fun v W2 g2 ⟨a, ks, e, hB, hH, r⟩ =>
  ⟨a, ks, e, hH, fun w hw => by
    have ne : a ≠ w := fun z => by rw [z, hw] at hH; cases hH
    have gw := W2.grow_put (o := viewHO w a) hw
    refine ⟨w, a, ks, d.kv.map (·.2), rfl, rfl, upd_same, (upd_ne ne).trans hH, kreps_ints r, fun ns' p h1 h2 hp0 => ?_⟩
    have e2 : ns' = ys := (h1.trans hp.symm).eq_of_pairwise (fun a b _ _ h h' => Int.le_antisymm h' h) (show ns'.Pairwise (· ≥ ·) from h2) ho
    subst e2
    exact k _ ((W2.put w _ (W2.free hw)).add p _) ((g2.and gw).and (Wd.grow_add _ hp0)) ⟨p, _, rfl, upd_same, int_reps _⟩⟩
theorem ev_sumV {κ : Type} [PyKey κ] {d : Dict κ Int} (h : EvD ε K te σ W d) : EvR ε K (tCB rSumV (tCons (tVals te) tNil)) σ W (d.kv.map (·.2)).sum := fun W1 g1 Q k => h W1 g1 _ fun v W2 g2 ⟨a, ks, e, hB, hH, r⟩ =>
  ⟨a, ks, e, hH, fun w hw => by
    have ne : a ≠ w := fun z => by rw [z, hw] at hH; cases hH
    exact ⟨w, a, ks, d.kv.map (·.2), rfl, upd_same, (upd_ne ne).trans hH, kreps_ints r, k _ (W2.put w _ (W2.free hw)) (g2.and (W2.grow_put hw)) rfl⟩⟩
end
/-- what is new may change unseen -/
theorem Md.fresh {S : List Addr} {W W1 W2 : Wd} {d : Addr} (a : Md S W W1) (b : Md (d :: S) W1 W2) (f : W.H d = none) : Md S W W2 := ⟨a.b.trans b.b, fun x o h1 h2 => b.l x o (a.b x o h1) (a.l x o h1 h2), fun x o h1 h2 => b.o x o (fun z => by
    rcases List.mem_cons.mp z with e | z
    · rw [e, f] at h2; cases h2
    · exact h1 z) (a.o x o h1 h2), fun x hx => by rw [b.m x (a.n x hx), a.m x hx], fun x hx => b.d x (a.d x hx), fun x hx => b.n x (a.n x hx)⟩
/-! ### dicts that change -/
structure DMut {κ α : Type} [PyKey κ] [Py α] (K : Fg) (W : Wd) (d : Addr) (kv : List (κ × α)) : Prop where
  b : W.B d = none
  ex : ∃ ks, W.H d = some (.dK ks) ∧ KReps K W.B ks kv
section
variable {κ α : Type} [DecidableEq κ] [PyKey κ] [Py α] {K : Fg} {W W' : Wd} {d : Addr} {kv : List (κ × α)} {ε : Ef} {σ : SS} {S : List Addr} {ty tv tx te : TE}
theorem DMut.nt (m : DMut K W d kv) : Nt W.H d := by
  obtain ⟨ks, e, _⟩ := m.ex
  exact .k e
theorem DMut.g (m : DMut K W d kv) (g : Md S W W') (h : d ∉ S) : DMut K W' d kv := by
  obtain ⟨ks, e, r⟩ := m.ex
  have := g.mut h e m.b
  exact ⟨this.2, ks, this.1, KReps.mono (exExt g.b) r⟩
theorem DMut.gr (m : DMut K W d kv) (g : Grow W W') : DMut K W' d kv := m.g g (by simp)
theorem DMut.s (m : DMut K W d kv) (g : Stp ε W W') (h : d ∉ ε.S) : DMut K W' d kv := m.g g.md h
theorem DMut.new (W : Wd) {d : Addr} (h : W.H d = none) : DMut K (W.put d (.dK []) (W.free h)) d ([] : List (κ × α)) := ⟨W.free h, [], upd_same, .nil⟩
/-- d[k] = v -/
theorem s_dput {D : Ends} {i : Nat} {k : κ} {x : α} (hd : σ[i]? = some (some (.ref d))) (m : DMut K W d kv) (hv : EvR pur K tv σ W x) (hk : EvP pur ty σ W (fun u _ => u = kV (PyKey.key k))) (hl : kv.length < 100000)
    (q : ∀ W', Md [d] W W' → On W W' → DMut K W' d (kput kv k x) → D.nx σ W'.H) : sDPut (tVar i) ty tv D σ W.H := hv W (.start trivial) _ fun v W1 g1 rv => ⟨.ref d, hd, hk W1 g1 _ fun u W2 g2 e => by
  have g := (g1.trans g2).pure
  obtain ⟨ks, e1, r⟩ := (m.gr g).ex
  have b := (m.gr g).b
  refine ⟨d, _, rfl, .inl ⟨ks, PyKey.key k, e1, e, by rw [KReps.len r]; exact Evl.sz_lt hl, rfl⟩, q (W2.put d _ b) ((Grow.s g).trans (md_put b)) (g.on.trans (md_put b).on) ⟨b, _, upd_same, KReps.put r k (rep_s g2 rv)⟩⟩⟩
theorem ek_of [Py κ] {k : κ} (hv : ∀ {H : Hp} {v : V}, rep K H v k → v = kV (PyKey.key k)) (h : EvR ε K te σ W k) : EvP ε te σ W (fun u _ => u = kV (PyKey.key k)) := fun W1 g1 Q q => h W1 g1 _ fun v W2 g2 r => q v W2 g2 (hv r)
theorem ek_int {n : Int} (h : EvR ε K te σ W n) : EvP ε te σ W (fun u _ => u = kV (PyKey.key n)) := ek_of (fun r => r) h
theorem ek_str {n : Str} (h : EvR ε K te σ W n) : EvP ε te σ W (fun u _ => u = kV (PyKey.key n)) := ek_of (fun r => r) h
theorem klk {H : Hp} {ks : List (Key × V)} (r : KReps K H ks kv) (k : κ) : (klook kv k = none ∧ valV ks (PyKey.key k) = none) ∨ ∃ x v, klook kv k = some x ∧ valV ks (PyKey.key k) = some v ∧ rep K H v x := by
  cases e : klook kv k with
  | none => exact .inl ⟨rfl, r.none e⟩
  | some x =>
    obtain ⟨v, h1, h2⟩ := r.some e
    exact .inr ⟨x, v, rfl, h1, h2⟩
/-- d.get(k, x) -/
theorem ev_dget2 {i : Nat} {k : κ} {x : α} (hd : σ[i]? = some (some (.ref d))) (m : DMut K W d kv) (hS : d ∉ ε.S) (hk : EvP ε ty σ W (fun u _ => u = kV (PyKey.key k))) (hx : EvR ε K tx σ W x) : EvR ε K (tDGet2 (tVar i) ty tx) σ W ((klook kv k).getD x) := fun W1 g1 Q q => by
  obtain ⟨ks, e1, r⟩ := (m.s g1 hS).ex
  refine ⟨_, hd, d, rfl, .inl ⟨ks, .inl e1⟩, hk W1 g1 _ fun u W2 g2 eu => hx W2 (g1.trans g2) _ fun w W3 g3 rw => ?_⟩
  obtain ⟨ks, e3, r⟩ := (m.s ((g1.trans g2).trans g3) hS).ex
  rcases klk r k with ⟨h1, h2⟩ | ⟨y, v, h1, h2, h3⟩
  · exact ⟨none, .inl ⟨ks, _, .inl e3, eu, h2.symm⟩, q _ W3 (g2.trans g3) (by rw [h1]; exact rw)⟩
  · exact ⟨some v, .inl ⟨ks, _, .inl e3, eu, h2.symm⟩, q _ W3 (g2.trans g3) (by rw [h1]; exact h3)⟩
/-- it shall stay -/
theorem DMut.fix (m : DMut K W d kv) : ∃ o, ∃ h : W.H d = some o, DictAt K (W.fix d o h) (.ref d) ⟨kv⟩ ∧ Ex W.B (W.fix d o h).B ∧ ∀ W0 S, Md S W0 W → W0.H d = none → Md S W0 (W.fix d o h) := by
  obtain ⟨ks, e, r⟩ := m.ex
  exact ⟨_, e, ⟨d, ks, rfl, upd_same, e, KReps.mono (exExt (ex_fix e m.b)) r⟩, ex_fix e m.b, fun W0 S g f => md_fix g e m.b f⟩
end
/-! ### dicts with tuples of ints as keys -/
structure TMut (W : Wd) (d : Addr) (ks : List (List Key)) : Prop where
  b : W.B d = none
  ex : ∃ kvs, W.H d = some (.dT kvs) ∧ kvs.map (·.1) = ks
section
variable {W W' : Wd} {d : Addr} {ks : List (List Key)} {S : List Addr} {K : Fg} {σ : SS} {ty tv te : TE} {ε : Ef}
theorem TMut.nt (m : TMut W d ks) : Nt W.H d := by
  obtain ⟨k, e, _⟩ := m.ex
  exact ⟨_, e, fun _ z => by cases z⟩
theorem TMut.g (m : TMut W d ks) (g : Md S W W') (h : d ∉ S) : TMut W' d ks := by
  obtain ⟨k, e, r⟩ := m.ex
  have := g.mut h e m.b
  exact ⟨this.2, k, this.1, r⟩
theorem TMut.gr (m : TMut W d ks) (g : Grow W W') : TMut W' d ks := m.g g (by simp)
def tput (ks : List (List Key)) (k : List Key) : List (List Key) := if (ks.any fun x => decide (x = k)) = true then ks else ks ++ [k]
theorem tput_keys (kvs : List (List Key × V)) (k : List Key) (v : V) : (putK kvs k v).map (·.1) = tput (kvs.map (·.1)) k := by
  unfold putK tput
  have : (kvs.any fun kv => decide (kv.1 = k)) = ((kvs.map (·.1)).any fun x => decide (x = k)) := by
    rw [List.any_map]
    rfl
  by_cases h : (kvs.any fun kv => decide (kv.1 = k)) = true
  · rw [if_pos h, if_pos (this ▸ h), List.map_map]
    refine List.map_congr_left fun q _ => ?_
    show (if q.1 = k then (q.1, v) else q).1 = q.1
    split <;> rfl
  · rw [if_neg h, if_neg (fun z => h (this ▸ z)), List.map_append]
    rfl
theorem tput_mem {ks : List (List Key)} {k j : List Key} : j ∈ tput ks k ↔ j ∈ ks ∨ j = k := by
  unfold tput
  split
  · rename_i h
    obtain ⟨x, hx, e⟩ := List.any_eq_true.mp h
    have e' : x = k := of_decide_eq_true e
    exact ⟨.inl, fun z => z.elim id fun e => by rw [e, ← e']; exact hx⟩
  · simp
theorem tput_len (ks : List (List Key)) (k : List Key) : (tput ks k).length ≤ ks.length + 1 := by
  unfold tput
  split <;> simp
def ikey (xs : List Int) : List Key := xs.map Sum.inl
theorem ikey_vals {xs : List Int} : (ikey xs).map kV = xs.map V.int := by
  unfold ikey
  rw [List.map_map]
  rfl
theorem s_tput {α : Type} [Py α] {D : Ends} {i : Nat} {k : Tup Int} {x : α} (hd : σ[i]? = some (some (.ref d))) (m : TMut W d ks) (hv : EvR pur K tv σ W x) (hk : EvR pur K ty σ W k) (hl : ks.length ≤ 1000000)
    (q : ∀ W', Md [d] W W' → On W W' → TMut W' d (tput ks (ikey k.items)) → D.nx σ W'.H) : sDPut (tVar i) ty tv D σ W.H := hv W (.start trivial) _ fun v W1 g1 rv => ⟨.ref d, hd, hk W1 g1 _ fun u W2 g2 ⟨b, vs, e, s, r⟩ => by
  have g := (g1.trans g2).pure
  obtain ⟨kvs, e1, r1⟩ := (m.gr g).ex
  have bd := (m.gr g).b
  have len : kvs.length = ks.length := by rw [← r1, List.length_map]
  refine ⟨d, _, rfl, .inr ⟨kvs, ikey k.items, b, e1, e, ?_, by rw [len, PySem.sizeLine_eq]; omega, rfl⟩, q (W2.put d _ bd) ((Grow.s g).trans (md_put bd)) (g.on.trans (md_put bd).on) ⟨bd, _, upd_same, by rw [tput_keys, r1]⟩⟩
  rw [ikey_vals, ← reps_int r]
  exact W2.sub.et s⟩
abbrev rListDT : List V → Hp → VK → Prop := fun xs H Q => ∃ d kvs, xs = [V.ref d] ∧ Rd H d (.dT kvs) ∧ ∀ p bs, H p = none → IsKeys H kvs bs → Q (.ref p) (upd H p (.lst (bs.map V.ref)))
/-- list(d) -/
theorem ev_listDT {i : Nat} {xs : List (Tup Int)} (hd : σ[i]? = some (some (.ref d))) (m : TMut W d ks) (hx : ks = xs.map fun t => ikey t.items) : EvR pur K (tCB rListDT (tCons (tVar i) tNil)) σ W xs := fun W1 g1 Q q => by
  obtain ⟨kvs, e1, r1⟩ := (m.gr g1.pure).ex
  refine ⟨_, hd, d, kvs, rfl, .inl e1, fun p bs hp hk => ?_⟩
  have gt := W1.grow_tup bs
  have hp' : (W1.tup bs).H p = none := hp
  refine q _ ((W1.tup bs).add p _) (.of (gt.trans (Wd.grow_add _ hp'))) ⟨p, _, rfl, upd_same, ?_⟩
  have rB : Reps K (W1.tup bs).B (bs.map V.ref) xs := by
    subst hx
    clear q e1
    have main : ∀ (kvs : List (List Key × V)) (bs' : List Addr) (xs : List (Tup Int)), (∀ b ∈ bs', b ∈ bs) → IsKeys W1.H kvs bs' → kvs.map (·.1) = xs.map (fun t => ikey t.items) → Reps K (W1.tup bs).B (bs'.map V.ref) xs := by
      intro kvs
      induction kvs with
      | nil =>
        intro bs' xs _ hk hm
        cases hk
        cases xs with
        | nil => exact .nil
        | cons x xs => cases hm
      | cons kv kvs ih =>
        intro bs' xs hs hk hm
        cases hk with
        | cons h1 h2 =>
          cases xs with
          | nil => cases hm
          | cons x xs =>
            rw [List.map_cons, List.map_cons] at hm
            injection hm with hm1 hm2
            refine .cons ⟨_, _, rfl, Wd.tup_at h1 (hs _ List.mem_cons_self), ?_⟩ (ih _ _ (fun b hb => hs b (List.mem_cons_of_mem _ hb)) h2 hm2)
            rw [hm1, ikey_vals]
            exact int_reps _
    exact main kvs bs xs (fun _ h => h) hk r1
  exact Reps.mono (exExt (Wd.grow_add _ hp').b) rB
end
/-! ### [e for x in ..] where e is drawn -/
section
variable {α β : Type} [Py α] [Py β] {K : Fg} {σ : SS} {W W' : Wd} {v : V} {te : TE} {wi : TI} {ε : Ef}
/-- what is walked, not known whole -/
def EvIQ {α : Type} [Py α] (ε : Ef) (K : Fg) (wi : TI) (σ : SS) (W : Wd) (P : List α → Prop) : Prop :=
  ∀ W1, Stp ε W W1 → ∀ R : It → Hp → Prop, (∀ J S W2 xs, P xs → Stp ε W1 W2 → S W2 → (∀ W W', S W → Stp ε W W' → S W') → Src K J S xs → R J W2.H) → wi σ W1.H R
theorem EvI.q {xs : List α} (h : EvI ε K wi σ W xs) : EvIQ ε K wi σ W (fun ys => ys = xs) := fun W1 g1 R k => h W1 g1 R fun J S W2 g2 s sg src => k J S W2 xs rfl g2 s sg src
theorem ei_rngQ {P : Int → Prop} (h : EvP ε te σ W (fun v _ => ∃ n, v = .int n ∧ P n)) (hb : ∀ n, P n → n ≤ 1000000000 ∧ -1000000000 ≤ n) : EvIQ (α := Int) ε K (iRng1 (tCons te tNil)) σ W (fun xs => ∃ n, P n ∧ xs = rng 0 n.toNat) := fun W1 g1 R k => h W1 g1 _ fun v W2 g2 ⟨n, e, p⟩ =>
  ⟨n, by rw [e], by have := hb n p; omega, by have := hb n p; omega, k _ (fun _ => True) W2 _ ⟨n, p, rfl⟩ g2 trivial (fun _ _ _ _ => trivial) src_range⟩
theorem en_lcQ {j : Nat} {P : List α → Prop} {R : β → Prop} (hi : EvIQ ε K wi σ W P) (hl : ∀ xs, P xs → xs.length ≤ 100000) (he : ∀ (x : α) v W', Stp ε W W' → rep K W'.B v x → EvP ε te ((wipe σ [j]).set j (some v)) W' (fun u W2 => ∃ y : β, R y ∧ rep K W2.B u y)) :
    ∀ W1, Stp ε W W1 → ∀ Q : VK, (∀ p vs (xs : List α) (ys : List β) W2, P xs → Stp ε W1 W2 → W1.H p = none → W2.B p = none → W2.H p = some (.lst vs) → Reps K W2.B vs ys → ys.length = xs.length → (∀ y ∈ ys, R y) → Q (.ref p) W2.H) → tLc wi (gName j) tYes te [j] σ W1.H Q := fun W1 g1 Q k =>
  hi W1 g1 _ fun J S W2 xs hP g2 s2 sg src D hD => by
    have hl := hl xs hP
    have DS : D ∉ ε.S := Ef.off g2.i hD
    refine ⟨fun i m H => m = xs.length - i ∧ i ≤ xs.length ∧ ∃ Wi acc ys, Wi.H = H ∧ Stp ε W2 Wi ∧ Wi.B D = none ∧ Wi.H D = some (.lst acc) ∧ Reps K Wi.B acc ys ∧ ys.length = i ∧ ∀ y ∈ ys, R y, ⟨xs.length, rfl, Nat.zero_le _, W2.put D (.lst []) (W2.free hD), [], ([] : List β), rfl, ⟨md_mut (.refl _ _) (W2.free hD) hD, i_put DS g2.i _⟩, W2.free hD, upd_same, .nil, rfl, by simp⟩, ?_⟩
    rintro i m H ⟨rfl, hle, Wi, acc, ys, rfl, gi, bD, hDi, rs, hyl, hR⟩
    have si : S Wi := sg _ _ s2 gi
    have hacc : acc.length ≤ i := by rw [Reps.len rs, hyl]; exact Nat.le_refl _
    by_cases hlt : i < xs.length
    · refine .inr ⟨src.go i Wi si hlt, fun H => i + 1 ≤ xs.length ∧ ∃ Wi acc ys, Wi.H = H ∧ Stp ε W2 Wi ∧ Wi.B D = none ∧ Wi.H D = some (.lst acc) ∧ Reps K Wi.B acc (ys : List β) ∧ ys.length = i + 1 ∧ ∀ y ∈ ys, R y, fun H' h' => ⟨_, by omega, rfl, h'⟩, fun v H'' hy => ?_⟩
      obtain ⟨x, W3, rfl, g3', hx, r⟩ := src.yld i Wi v H'' si hlt hy
      have g3 : Stp ε Wi W3 := gi.rf.and g3'
      have m3 := g3.md.mut DS hDi bD
      refine ⟨wipe1, ?_⟩
      refine et_yes (ε := ε) W3 g3.rf _ fun W4 g4 => ?_
      rw [if_pos rfl]
      have m4 := g4.md.mut DS m3.1 m3.2
      refine he x v W4 ((((g1.trans g2).trans gi).trans g3).trans g4) (rep_s g4 r) W4 g4.rf _ fun u W5 g5 ⟨y, hy1, r5⟩ => ?_
      have m5 := g5.md.mut DS m4.1 m4.2
      refine ⟨acc, m5.1, Evl.sz_lt (by omega), hlt, W5.put D _ m5.2, acc ++ [u], ys ++ [y], rfl, ⟨md_mut (((gi.trans g3).trans g4).trans g5).md m5.2 hD, i_put DS g5.i _⟩, m5.2, upd_same, Reps.snoc (Reps.mono (exExt ((g3.trans g4).trans g5).md.b) rs) r5, by rw [List.length_append, hyl]; rfl, fun z hz => ?_⟩
      rcases List.mem_append.mp hz with h | h
      · exact hR z h
      · rw [List.mem_singleton.mp h]; exact hy1
    · have e : i = xs.length := by omega
      subst e
      exact .inl ⟨src.stop _ Wi si (Nat.le_refl _), k D acc xs ys Wi hP (g2.trans gi) (by
        cases e : W1.H D with
        | none => rfl
        | some o => exact absurd hD (g2.md.d D (by rw [e]; exact fun z => by cases z))) bD hDi rs hyl hR⟩
theorem ep_lcQ {j : Nat} {P : List α → Prop} {R : β → Prop} (hi : EvIQ ε K wi σ W P) (hl : ∀ xs, P xs → xs.length ≤ 100000) (he : ∀ (x : α) v W', Stp ε W W' → rep K W'.B v x → EvP ε te ((wipe σ [j]).set j (some v)) W' (fun u W2 => ∃ y : β, R y ∧ rep K W2.B u y)) :
    EvP ε (tLc wi (gName j) tYes te [j]) σ W (fun v W' => ∃ (xs : List α) (ys : List β), P xs ∧ ys.length = xs.length ∧ (∀ y ∈ ys, R y) ∧ rep K W'.B v ys) := fun W1 g1 Q k =>
  en_lcQ hi hl he W1 g1 Q fun p vs xs ys W2 hP g2 f n e r hly hR => k _ (W2.fix p _ e) (g2.fix f g1.i e n) ⟨xs, ys, hP, hly, hR, p, vs, rfl, upd_same, Reps.mono (exExt (ex_fix e n)) r⟩
/-- m + a drawn number -/
theorem ep_add {m : Int} {P : Int → Prop} (h : EvP ε te σ W (fun v _ => ∃ n, v = .int n ∧ P n)) : EvP ε (tOp oAdd (tC (.int m)) te) σ W (fun v _ => ∃ n, v = .int (m + n) ∧ P n) := fun W1 g1 Q k => h W1 g1 _ fun v W2 g2 ⟨n, e, p⟩ =>
  ⟨m, n, rfl, e, k _ W2 g2 ⟨n, rfl, p⟩⟩
/-- a drawn number == m -/
theorem ep_eq (K0 : Fg) {m : Int} {P : Int → Prop} (h : EvP ε te σ W (fun v _ => ∃ n, v = .int n ∧ P n)) : EvP ε (tOp rEq te (tC (.int m))) σ W (fun v _ => ∃ b : Bool, v = .bl b) := fun W1 g1 Q k => h W1 g1 _ fun v W2 g2 ⟨n, e, p⟩ => by
  subst e
  exact ro_eqI (K := K0) _ _ W2 rfl rfl Q fun w W3 g3 r => k w W3 (g2.and g3) ⟨_, r⟩
/-- a test that is drawn -/
def EvTQ (ε : Ef) (tt : TT) (σ : SS) (W : Wd) : Prop := ∀ W1, Stp ε W W1 → ∀ Q : Bool → Hp → Prop, (∀ b W2, Stp ε W1 W2 → Q b W2.H) → tt σ W1.H Q
theorem etq (h : EvP ε te σ W (fun v _ => ∃ b : Bool, v = .bl b)) : EvTQ ε (tTest te) σ W := fun W1 g1 Q k => h W1 g1 _ fun v W2 g2 ⟨b, e⟩ => ⟨b, e, k b W2 g2⟩
theorem q_whenQ {D : Ends} {t : TT} {tu tz : TS} (h : EvTQ ε t σ W) (s : ε.I W) (h1 : ∀ W', Stp ε W W' → tu { D with nx := tz D } σ W'.H) (h2 : ∀ W', Stp ε W W' → tz D σ W'.H) : tSeq (tIfS t tu tNext) tz D σ W.H := h W (.start s) _ fun b W' g => by
  cases b with
  | true => exact h1 W' g
  | false => exact h2 W' g
/-- both ways meet again in R -/
theorem q_whenJ {D : Ends} {t : TT} {tu tz : TS} (R : Wd → Prop) (h : EvTQ ε t σ W) (s : ε.I W) (k : ∀ W', R W' → tz D σ W'.H) (h1 : ∀ W', Stp ε W W' → (∀ W'', R W'' → tz D σ W''.H) → tu { D with nx := tz D } σ W'.H) (h2 : ∀ W', Stp ε W W' → R W') : tSeq (tIfS t tu tNext) tz D σ W.H :=
  q_whenQ h s (fun W' g => h1 W' g k) (fun W' g => k W' (h2 W' g))
end
end B
/-! B: == of own instances, methods called by keywords alone -/
namespace B
open PySem L2 PySem.Spec PyProof.Rows
section
variable {X : Cx} {CX : CXT} {k : Nat} {f C : Addr} {fd : FuncData} {ps ks : List Str} {sp : Sp} {E : XK} {o : Expr} {ta : TE} {tk : TA} {kws : List Keyword} {m : Str} {apos pos : Pos}
/-- x == y, two instances of the class at C, whose own __eq__ keeps the promise sp -/
def rInsEq (C : Addr) (sp : Sp) (E : XK) : R2 := fun x y H Q => ∃ a b dx dy fs gs, x = .ref a ∧ y = .ref b ∧ H a = some (.ins C dx fs) ∧ H b = some (.ins C dy gs) ∧ sp [x, y] H Q E
theorem op_insEq (F : FnOk X.prog X.w X.K X.mg X.base CX k f fd ps sp) (hr : Room k X.A) (hm : Meth X.K C "__eq__" f) (hb : Binds X.K fd ps []) (hx : Passes CX X E) : OpR X (compareOp .Eq) (rInsEq C sp E) := by
  intro pins s σ H x y v u Q I rx ry h
  obtain ⟨a, b, dx, dy, fs, gs, rfl, rfl, ha, hb', q⟩ := h
  cases (show v = Value.ref a from rx)
  cases (show u = Value.ref b from ry)
  obtain ⟨mA, J, _⟩ := ins_get I.hok ha
  obtain ⟨mB, J', _⟩ := ins_get I.hok hb'
  obtain ⟨od, J, _⟩ := J.look
  obtain ⟨od', J', _⟩ := J'.look
  obtain ⟨m, hF⟩ := I.fr
  show wpAny (model X.prog X.w) X.A (richCompare .Eq (.ref a) (.ref b)) (EP X pins σ Q) X.xe s
  refine PySem.W.cmp_K (op := .Eq) (tb := .ref C) hr.units0 hF I.ok.mod.kin J J'.type (by simp [PySem.W.notFirst]) hm.at_ hm.fn ?_
  refine wpAny_mono (run_fn (us := [.ref a, .ref b]) (vs := [.ref a, .ref b]) (dvs := []) F hr hb .nil hx I (.cons rfl (.cons rfl .nil)) q) (fun w s' z => ?_) fun _ _ x => x
  obtain ⟨z', H', I', rz, qz⟩ := z
  exact SlX.cmpback rz ⟨z', H', I', rz, qz⟩
/-- how a method binds keywords alone, self ahead -/
def KwM (K : Fg) (fd : FuncData) (ps ks : List Str) (l : List Nat) : Prop := ∀ (s : Shared) (o : Value) (ws : List Value), K.In s.heap → ws.length = ks.length → BindsTo s fd ⟨[o], ks.zip ws⟩ (ps.zip (o :: perm l ws))
theorem kwm_mk {K : Fg} {x qual : Str} {st : Stmt} {f : Addr} {fd : FuncData} {ps ks : List Str} {l : List Nat} (F : Fun K x qual st f fd)
    (h : ∀ (kV doc pm : Value) (an : Option Addr) (cdv ct : Value) (o : Value) (us : List Value), us.length = ks.length → bindArgs (PySem.W.fnOf x qual (defArgs st) (defBody st) (defScope st) .none kV doc pm an cdv ct) ⟨[o], ks.zip us⟩ = pure (ps.zip (o :: perm l us))) : KwM K fd ps ks l := by
  obtain ⟨oc, od, kV, doc, pm, an, cdv, ct, osl, rfl, lk, hcd⟩ := F.ex
  exact fun s o ws _ hl => .of_eq (h kV doc pm an cdv ct o ws hl)
def tMethKw (C : Addr) (m : Str) (sp : Sp) (l : List Nat) (n : Nat) (E : XK) (ta : TE) (tk : TA) : TE := fun σ H Q => ta σ H fun x H1 => ∃ a dx fs, x = .ref a ∧ H1 a = some (.ins C dx fs) ∧ fs.lookup m = none ∧ tk σ H1 fun zs H2 => zs.length = n ∧ sp (x :: perm l zs) H2 Q E
theorem pe_methKw {l : List Nat} {n : Nat} {pl : Sem Bool} (he : PE X o ta) (c : Cls X.K C) (hm : Meth X.K C m f) (F : FnOk X.prog X.w X.K X.mg X.base CX k f fd ps sp) (hr : Room k X.A) (hb : KwM X.K fd ps ks l) (hx : Passes CX X E)
    (hkw : PK X kws tk) (hall : (backToKw pos (keywordEach kws X.env)).all (·.1.isSome) = true := by rfl) (hks : (backToKw pos (keywordEach kws X.env)).filterMap (·.1) = ks := by rfl)
    (hn : n = ks.length := by rfl) (hpl : ((backTo pos (starEach [] X.env)).any (·.1) || (backToKw pos (keywordEach kws X.env)).any (·.1.isNone)) = false := by rfl)
    (ht : eval (.Call (.Attribute o m apos) [] kws pos) X.env = (do
      let ov ← eval o X.env
      standAt apos.atName
      let (f, first) ← holding [ov] (getMethod ov m pl)
      callWith pos f first (backTo pos (starEach [] X.env)) (backToKw pos (keywordEach kws X.env))) := by rfl) :
    PE X (.Call (.Attribute o m apos) [] kws pos) (tMethKw C m sp l n E ta tk) := by
  subst hn
  refine ⟨fun pins s σ H Q I h => ?_⟩
  refine PySem.W.methodCall_KW (pl := pl) (thn (he.run pins s σ H _ I h) fun u s1 ⟨x, H1, I1, rx, a, dx, fs, ex, ea, lk, q⟩ => ?_) ht
  subst ex
  obtain rfl : u = Value.ref a := rx
  refine getmeth_ok I1 ea c hm lk ?_
  refine PySem.W.callWith_KW0 (first := [.ref a]) (h₀ := X.base) I.ok.mod.kin hm.kp hall (thn (hkw.run pos pins s1 σ H1 _ I1 q) fun ws s2 ⟨zs, H2, I2, rz, hl, q2⟩ => ⟨I2.kIn, ?_⟩) hpl
  rw [hks]
  have r2 : Vals (V.ref a :: perm l zs) (Value.ref a :: perm l ws) := .cons rfl (perm_rel l rz)
  refine wpAny_call (codeAny_mono (F.run X.A X.stack s2 H2 ⟨[.ref a], ks.zip ws⟩ (Value.ref a :: perm l ws) (V.ref a :: perm l zs) Q E hr I2.env0 (hb s2 (.ref a) ws I2.kIn (by rw [← rz.length]; exact hl)) r2 q2) fun r s' hq => ?_)
  cases r with
  | error e => exact hx pins σ H2 s2 e s' I2 hq
  | ok fl =>
    cases fl with
    | ret u => exact I2.after hq
    | next => exact False.elim hq
    | brk => exact False.elim hq
    | cont => exact False.elim hq
end
/-- what is asked of a class whose instances have a dict; isinstance of itself -/
structure ClsI (K : Fg) (C : Addr) : Prop where
  cl : Cls K C
  ha : PySem.W.findIn K (.ref C) "__class__" = some (some (.builtin "object.__class__"))
  hn : PySem.W.specialIn K (.builtin "object.__class__") "__get__" = some (some (.builtin "getset_descriptor.__get__"))
  ht : PySem.W.takesIn K (.builtin "object.__class__") = some true
  hm : PySem.W.mroIn K C (.type "object") = some true
  ki : PySem.W.kitOne K (.ref C) (.ref C) = some true
theorem ClsI.ty {K : Fg} {C a dx : Addr} {H : Hp} {fs : List (Str × V)} (c : ClsI K C) (e : H a = some (.ins C dx fs)) : TyX K H (.ref a) (.ref C) := .base (.ins e c.cl c.ha c.hn c.ht c.hm)
/-- isinstance of an own instance -/
theorem rc_isi_own {K : Fg} {C a dx : Addr} {H : Hp} {Q : VK} {fs : List (Str × V)} (c : ClsI K C) (e : H a = some (.ins C dx fs)) (q : Q (.bl true) H) : rIsi K [.ref a, .ref C] H Q := ⟨.ref a, .ref C, .ref C, .ref C, true, rfl, .own C, c.ty e, c.ki, q⟩
/-! ### enumerate(tuple) -/
theorem enumT_new (t : Addr) (items : Array Value) :
    Meets (Builtin.«enumerate.__new__» ⟨[.type "enumerate", .ref t], []⟩) (fun _ R s => s.heap.IsTuple t items ∧
      R (.ok (.ret (.ref (s.heap.objs.size + 1)))) { s with heap := (s.heap.push { cls := .type "tuple_iterator", data := .fields #[.ref t, .int 0 0] }).push { cls := .type "enumerate", data := .fields #[.none, .bool false, .ref s.heap.objs.size, rawInt 0, .none, .none] } }) :=
  .of_wp fun prog w A R s h => by
    obtain ⟨hp, g, d, tk, os⟩ := s
    obtain ⟨h1, h⟩ := h
    have hsub := sub_enumerate
    have hz : (hp.push { cls := .type "tuple_iterator", data := .fields #[.ref t, .int 0 0] }).objs.size = hp.objs.size + 1 := Heap.size_push ..
    have q1 : ∀ {A' : Around} {E : Value → Shared → Prop} {Q : Value → Shared → Prop}, Q (.ref hp.objs.size) ⟨hp.push { cls := .type "tuple_iterator", data := .fields #[.ref t, .int 0 0] }, g, d, tk, os⟩ → wpAny (model prog w) A' (pyIter (.ref t)) Q E ⟨hp, g, d, tk, os⟩ :=
      fun q => wpAny_pyIter_tuple (s := ⟨hp, g, d, tk, os⟩) h1 q
    have h' : ∃ v, Fin.done (Flow.ret (Value.ref (hp.push { cls := .type "tuple_iterator", data := .fields #[.ref t, .int 0 0] }).objs.size)) = Fin.done (Flow.ret v) ∧ R (.ok (.ret v)) ⟨(hp.push { cls := .type "tuple_iterator", data := .fields #[.ref t, .int 0 0] }).push { cls := .type "enumerate", data := .fields #[.none, .bool false, .ref hp.objs.size, rawInt 0, .none, .none] }, g, d, tk, os⟩ := ⟨_, rfl, by rw [hz]; exact h⟩
    wp_walk using q1
    refine wpAny_stack_any fun st => wpAny_pure ?_
    split
    · rename_i c _ _ _ _ _
      cases (c == Value.type "enumerate")
      · wp_walk using q1
        exact h'
      · wp_walk using q1
        exact h'
    · wp_walk using q1
      exact h'
def IteT (K : Fg) (a : Addr) (n : Nat) : It :=
  ⟨fun i H => i < n ∧ ∃ xs : List V, SqT K H a xs ∧ xs.length = n, fun i H v H' => ∃ T x, v = .ref T ∧ H T = none ∧ H' = upd H T (.tup [.int (i : Nat), x]) ∧ ∀ xs, SqT K H a xs → xs[i]? = some x,
    fun i H => n ≤ i ∧ ∃ xs : List V, SqT K H a xs ∧ xs.length = n⟩
def EtTn (a e it : Addr) (n i : Nat) (h : Heap) : Prop := (∃ old, IsEnum h e it ((i : Nat) : Int) old) ∧ h.IsTupleIter it a i ∧ e ≠ it ∧ e ≠ a ∧ i ≤ n
theorem turn_enumT {P : Program} {w : World} {K : Fg} {elts : List Expr} {kk : Nat} {tpos : Pos} (a e it : Addr) (n : Nat) :
    Turn P w K (.Tuple elts kk tpos) (IteT K a n) [e, it] e (EtTn a e it n) where
  mem := by simp
  obj := fun i h st b hb => by
    obtain ⟨⟨old, he⟩, ⟨o, ho, hc, hd⟩, _⟩ := st
    simp only [List.mem_cons, List.not_mem_nil, or_false] at hb
    rcases hb with z | z <;> rw [z]
    · exact ⟨_, he, fun v q => nomatch q⟩
    · exact ⟨o, ho, fun v q => by rw [hd] at q; cases q⟩
  keep := fun i h h' st k => let ⟨⟨old, he⟩, hi, hne⟩ := st; ⟨⟨old, k e (by simp) _ he⟩, hi.at fun o q => k it (by simp) o q, hne⟩
  item := by
    intro X hP hw hK hc i pins s σ H E I hf st hg
    subst hP hw hK
    obtain ⟨⟨old, he⟩, hit, hne, hea, hle⟩ := st
    obtain ⟨hlt, xs, hq, hn⟩ := hg
    obtain ⟨its, rv, p, hz⟩ := I.tuple hq
    have hl : its.length = n := by rw [← rv.length]; exact hn
    have hel : e < s.heap.objs.size := Heap.lt_size he
    have hil : it < s.heap.objs.size := by obtain ⟨_, q, _⟩ := hit; exact Heap.lt_size q
    have hef : e ∉ [it, a] := by simp [hne, hea]
    refine wpAny_pyNext_enum_itemD (Draws.tuple (show X.A.in1.handled = none from I.ok.hd hc) it a (ti_ne hit p) its.toArray) he ⟨hit, p⟩ (by simpa [hl] using hlt) hne hef fun u h' tk hu ho hit' hT hsz hk => ?_
    have hx : xs[i]? = some (xs[i]'(by omega)) := List.getElem?_eq_getElem (by omega)
    obtain ⟨u', e3, ru⟩ := rv.get hx
    have e2 : its[i]? = some u := by simpa using hu
    rw [e2] at e3
    cases e3
    refine ⟨_, rfl, wpAny_letOwnedTupleGo_enum (s := { s with heap := h', toks := tk + 1 }) ho fun h'' he' sb => ?_⟩
    have hT2 : h''.get? s.heap.objs.size = some { cls := .type "tuple", data := .seq #[.int i tk, u] } := (sb.2 _ (Nat.ne_of_gt hel)).trans hT
    have new : ObjOk X.prog X.w (upd H s.heap.objs.size (.tup [.int (i : Nat), xs[i]])) h'' s.heap.objs.size (.tup [.int (i : Nat), xs[i]]) :=
      ⟨by show 2 ≤ sizeLine; decide, [.int i tk, u], .cons ⟨_, rfl⟩ (.cons ru .nil), ⟨_, hT2, rfl, _, rfl⟩⟩
    have I1 : Inv X pins σ (upd H s.heap.objs.size (.tup [.int (i : Nat), xs[i]])) { s with heap := h'', toks := tk + 1 } :=
      I.turnedNew (ch := [e, it]) (fun b ob hb q => (sb.2 b (fun z => hb (by simp [z]))).trans (hk b ob (fun z => hb (by simp [z])) (fun z => hb (by simp [z])) q)) hf (Nat.le_refl _) new
    refine ⟨.ref s.heap.objs.size, _, I1, rfl, ⟨_, xs[i], rfl, I.hok.fresh (Nat.le_refl _), rfl, fun ys hy => by rw [I.tuple_inj hy hq]; exact hx⟩, ⟨⟨u, ?_⟩, hit'.1.at fun o q => (sb.2 it (Ne.symm hne)).trans q, hne, hea, by omega⟩, fun b hb => ?_⟩
    · have e1 : ((i + 1 : Nat) : Int) = (i : Int) + 1 := by omega
      rw [e1]; exact he'
    · have hb' : b < s.heap.objs.size := by
        simp only [List.mem_cons, List.not_mem_nil, or_false] at hb
        rcases hb with z | z <;> rw [z]
        · exact hel
        · exact hil
      rw [upd_ne (Nat.ne_of_lt hb')]
      exact (hf b hb).1
  done := by
    intro X hP hw hK hc i pins s σ H E I hf st hg
    subst hP hw hK
    obtain ⟨⟨old, he⟩, hit, hne, hea, hle⟩ := st
    obtain ⟨hge, xs, hq, hn⟩ := hg
    obtain ⟨its, rv, p, hz⟩ := I.tuple hq
    have hl : its.length = n := by rw [← rv.length]; exact hn
    obtain ⟨f0, f1, f2, f3, f4, f5⟩ := hf it (by simp)
    have hi : i = its.toArray.size := by simp; omega
    subst hi
    exact wpAny_pyNext_enum_endD (Draws.tuple (show X.A.in1.handled = none from I.ok.hd hc) it a (ti_ne hit p) its.toArray) he ⟨hit, p⟩ fun h' eb => ⟨rfl, I.turned (t' := s.toks) (fun b o hb q => eb b o hb q) f0 f1 f3 f4 f5⟩
  self := fun A i s Q E st h => let ⟨⟨_, he⟩, _⟩ := st; wpAny_pyIter_enum he h
def iEnumT (K : Fg) (ta : TA) : TI := fun σ H R => ta σ H fun vs H1 => ∃ a xs, vs = [.ref a] ∧ SqT K H1 a xs ∧ R (IteT K a xs.length) H1
theorem pi_enumT {X : Cx} {e : Expr} {ta : TA} {p pos tpos : Pos} {elts : List Expr} {kk : Nat} (hg : Gl X "enumerate") (hm : X.mg "enumerate" = none) (ha : PA X [e] ta) (hs : starEach [e] X.env = [(false, eval e X.env)] := by rfl) :
    PI X (.Tuple elts kk tpos) (.Call (.Name "enumerate" p) [e] [] pos) (iEnumT X.K ta) := by
  refine ⟨fun pins s σ H R I h => ?_⟩
  refine Call_ (ld_blt I hg hm boot_enumerate (PyProof.Rows.callWith_type1 (thn (ha.run pos pins s σ H _ I h) fun us s1 ⟨vs, H1, I1, r1, q1⟩ => ?_) hs rfl))
  obtain ⟨a, xs, ex, hq, q⟩ := q1
  subst ex
  cases r1 with
  | cons r rr =>
    cases rr
    cases r
    obtain ⟨its, rv, p', hz⟩ := I1.tuple hq
    have la : a < s1.heap.objs.size := by obtain ⟨o, ho, _⟩ := id p'; exact Heap.lt_size ho
    refine callType_new F.called_enumerate (by decide) (F.typeCall_enumerate_1 _) (F.newCall_enumerate_1 _) (fun obj => F.args_object_init_2 obj _) F.entry_enumerate_new (enumT_new a its.toArray) ⟨p', ?_⟩
    have hz : (s1.heap.push { cls := .type "tuple_iterator", data := .fields #[.ref a, .int 0 0] }).objs.size = s1.heap.objs.size + 1 := Heap.size_push ..
    have he : IsEnum ((s1.heap.push { cls := .type "tuple_iterator", data := .fields #[.ref a, .int 0 0] }).push { cls := .type "enumerate", data := .fields #[.none, .bool false, .ref s1.heap.objs.size, rawInt 0, .none, .none] }) (s1.heap.objs.size + 1) s1.heap.objs.size 0 .none := by
      have := Heap.get?_push_size (s1.heap.push { cls := .type "tuple_iterator", data := .fields #[.ref a, .int 0 0] }) (o := { cls := .type "enumerate", data := .fields #[.none, .bool false, .ref s1.heap.objs.size, rawInt 0, .none, .none] }) rfl
      rw [hz] at this; exact this
    refine ⟨⟨_, he, rfl⟩, wpAny_pyIter_enum he ?_⟩
    have hk : ∀ b o, s1.heap.get? b = some o → ((s1.heap.push { cls := .type "tuple_iterator", data := .fields #[.ref a, .int 0 0] }).push { cls := .type "enumerate", data := .fields #[.none, .bool false, .ref s1.heap.objs.size, rawInt 0, .none, .none] }).get? b = some o := fun b o x => Heap.get?_push_of_some _ (Heap.get?_push_of_some _ x)
    have I2 : Inv X pins σ H1 { s1 with heap := (s1.heap.push { cls := .type "tuple_iterator", data := .fields #[.ref a, .int 0 0] }).push { cls := .type "enumerate", data := .fields #[.none, .bool false, .ref s1.heap.objs.size, rawInt 0, .none, .none] } } := I1.kept (t' := s1.toks) hk
    refine ⟨s1.heap.objs.size + 1, [s1.heap.objs.size + 1, s1.heap.objs.size], _, _, H1, rfl, I2, turn_enumT a (s1.heap.objs.size + 1) s1.heap.objs.size xs.length, ⟨⟨.none, he⟩, ⟨_, Heap.get?_push_of_some _ (Heap.get?_push_size _ rfl), rfl, rfl⟩, Nat.succ_ne_self _, Nat.ne_of_gt (Nat.lt_succ_of_lt la), Nat.zero_le _⟩, fun b hb => ?_, q⟩
    have hle : s1.heap.objs.size ≤ b := by
      simp only [List.mem_cons, List.not_mem_nil, or_false] at hb
      rcases hb with z | z <;> rw [z]
      · exact Nat.le_succ _
      · exact Nat.le_refl _
    exact I1.fpOk hle (I1.hok.fresh hle)
open PySem.W (Tup)
theorem ei_enumT {α : Type} [Py α] {K : Fg} {σ : SS} {W : Wd} {te : TE} {ε : Ef} {xs : Tup α} (h : EvR ε K te σ W xs) : EvJ ε K (iEnumT K (tCons te tNil)) σ W ((rng 0 xs.items.length).zip xs.items) := fun W1 g1 R k => h W1 g1 _ fun v W2 g2 ⟨a, vs, e, s, r⟩ => by
  have hl := Reps.len r
  refine ⟨a, vs, by rw [e], SqT.of (W2.sub.et s), k (IteT K a vs.length) W2 g2 ⟨fun i W' o hi => ?_, fun i W' v H'' o hi ⟨T, x, e1, hT, e2, e3⟩ => ?_, fun i W' o hi => ?_⟩⟩
  · rw [List.length_zip, rng_len] at hi
    exact ⟨by omega, vs, SqT.of (W'.sub.et (o.b _ _ s)), rfl⟩
  · rw [List.length_zip, rng_len] at hi
    obtain ⟨y, h1, h2⟩ := Reps.get r (e3 vs (SqT.of (W'.sub.et (o.b _ _ s))))
    refine ⟨((i : Int), y), W'.add T _, e2.symm, W'.grow_add hT, ?_, T, .int (i : Nat), x, e1, upd_same, rfl, rep_g (W'.grow_add hT) (rex o.b h2)⟩
    rw [List.getElem?_zip_eq_some]
    exact ⟨by rw [rng_get (by omega)]; simp, h1⟩
  · rw [List.length_zip, rng_len] at hi
    exact ⟨by omega, vs, SqT.of (W'.sub.et (o.b _ _ s)), rfl⟩
/-! ### chains of comparisons -/
def tTest3 (r1 r2 r3 : R2) (ta tb tc td : TE) : TT := fun σ H Q => ta σ H fun x H1 => tb σ H1 fun y H2 => r1 x y H2 fun p H3 => ∃ k, p = .bl k ∧
  (if k = true then tc σ H3 fun z H4 => r2 y z H4 fun p H5 => ∃ k, p = .bl k ∧ (if k = true then td σ H5 fun u H6 => r3 z u H6 fun p H7 => ∃ k, p = .bl k ∧ Q k H7 else Q false H5) else Q false H3)
theorem pt_chain3 {X : Cx} {a b c d : Expr} {pos : Pos} {o1 o2 o3 : CmpOp} {r1 r2 r3 : R2} {ta tb tc td : TE} (h1 : OpR X (compareOp o1) r1) (h2 : OpR X (compareOp o2) r2) (h3 : OpR X (compareOp o3) r3) (ha : PE X a ta) (hb : PE X b tb) (hc : PE X c tc) (hd : PE X d td)
    (hm : lastMarks [o1, o2, o3] [b, c, d] = false := by with_unfolding_all rfl) : PT X (.Compare a [o1, o2, o3] [b, c, d] pos) (tTest3 r1 r2 r3 ta tb tc td) := by
  refine ⟨fun pins s σ H Q I h => ?_⟩
  refine isTrue_chain (thn (ha.run pins s σ H _ I h) fun v s1 ⟨x, H1, I1, g1, q1⟩ => test_link (thn (hb.run pins s1 σ H1 _ I1 q1) fun u s2 ⟨y, H2, I2, g2, q2⟩ =>
    thn (h1 pins s2 σ H2 x y v u _ I2 g1 g2 q2) fun d s3 ⟨z, H3, I3, g3, k, e, q3⟩ => ?_)) hm
  subst e
  cases g3
  refine wpAny_truthy_bool ?_
  cases k with
  | false => exact ite_ff ⟨H3, I3, q3⟩
  | true =>
    refine ite_tt (test_link (thn (hc.run pins s3 σ H3 _ I3 q3) fun w' s4 ⟨z', H4, I4, g4, q4⟩ => thn (h2 pins s4 σ H4 y z' u w' _ I4 g2 g4 q4) fun d' s5 ⟨z2, H5, I5, g5, k2, e2, q5⟩ => ?_))
    subst e2
    cases g5
    refine wpAny_truthy_bool ?_
    cases k2 with
    | false => exact ite_ff ⟨H5, I5, q5⟩
    | true =>
      refine ite_tt (test_last (thn (hd.run pins s5 σ H5 _ I5 q5) fun w6 s6 ⟨z6, H6, I6, g6, q6⟩ => thn (h3 pins s6 σ H6 z' z6 w' w6 _ I6 g4 g6 q6) fun d7 s7 ⟨z7, H7, I7, g7, k3, e3, q7⟩ => ?_))
      subst e3
      cases g7
      exact wpAny_truthy_bool ⟨H7, I7, q7⟩
section
variable {α β γ δ : Type} [Py α] [Py β] [Py γ] [Py δ] {K : Fg} {σ : SS} {W : Wd} {ta tb tc td : TE} {r1 r2 r3 : R2} {ε : Ef} {x : α} {y : β} {z : γ} {u : δ} {b1 b2 b3 : Bool}
/-- a op b op c as a value -/
theorem ev_chain (ha : EvR ε K ta σ W x) (hb : EvR ε K tb σ W y) (hc : EvR ε K tc σ W z) (h1 : RO K r1 x y b1) (h2 : RO K r2 y z b2) : EvR ε K (tChain r1 r2 ta tb tc) σ W (b1 && b2) := fun W1 g1 Q k =>
  ha W1 g1 _ fun vx W2 g2 rx => hb W2 (g1.trans g2) _ fun vy W3 g3 ry => h1 vx vy W3 (rep_s g3 rx) ry _ fun w W4 g4 rw => ⟨b1, rw, by
    have g14 := (g1.trans g2).trans (g3.and g4)
    cases b1 with
    | false => rw [if_neg Bool.false_ne_true]; exact k _ W4 ((g2.trans g3).and g4) rfl
    | true =>
      rw [if_pos rfl]
      exact hc W4 g14 _ fun vz W5 g5 rz => h2 vy vz W5 (rep_s g5 (rep_g g4 ry)) rz _ fun w' W6 g6 rw' => k w' W6 (((g2.trans (g3.and g4)).trans g5).and g6) rw'⟩
theorem et_chain3 (ha : EvR ε K ta σ W x) (hb : EvR ε K tb σ W y) (hc : EvR ε K tc σ W z) (hd : EvR ε K td σ W u) (h1 : RO K r1 x y b1) (h2 : RO K r2 y z b2) (h3 : RO K r3 z u b3) : EvT ε (tTest3 r1 r2 r3 ta tb tc td) σ W (b1 && (b2 && b3)) := fun W1 g1 Q k =>
  ha W1 g1 _ fun vx W2 g2 rx => hb W2 (g1.trans g2) _ fun vy W3 g3 ry => h1 vx vy W3 (rep_s g3 rx) ry _ fun w W4 g4 rw => ⟨b1, rw, by
    have g14 := (g1.trans g2).trans (g3.and g4)
    cases b1 with
    | false => rw [if_neg Bool.false_ne_true]; exact k W4 ((g2.trans g3).and g4)
    | true =>
      rw [if_pos rfl]
      exact hc W4 g14 _ fun vz W5 g5 rz => h2 vy vz W5 (rep_s g5 (rep_g g4 ry)) rz _ fun w' W6 g6 rw' => ⟨b2, rw', by
        have g16 := g14.trans (g5.and g6)
        cases b2 with
        | false => rw [if_neg Bool.false_ne_true]; exact k W6 (((g2.trans (g3.and g4)).trans g5).and g6)
        | true =>
          rw [if_pos rfl]
          exact hd W6 g16 _ fun vu W7 g7 ru => h3 vz vu W7 (rep_s g7 (rep_g g6 rz)) ru _ fun w8 W8 g8 rw8 => ⟨b3, rw8, k W8 ((((g2.trans (g3.and g4)).trans (g5.and g6)).trans g7).and g8)⟩⟩⟩
end
abbrev oIsB : R2 := fun x y H Q => ∃ a b, x = .bl a ∧ y = .bl b ∧ Q (.bl (decide (a = b))) H
abbrev oNotIsB : R2 := fun x y H Q => ∃ a b, x = .bl a ∧ y = .bl b ∧ Q (.bl (!decide (a = b))) H
theorem ro_isB {K : Fg} {a b : Bool} : RO K oIsB a b (decide (a = b)) := ro_val fun v u _ rv ru Q k => ⟨a, b, rv, ru, k _ rfl⟩
theorem ro_notIsB {K : Fg} {a b : Bool} : RO K oNotIsB a b (!decide (a = b)) := ro_val fun v u _ rv ru Q k => ⟨a, b, rv, ru, k _ rfl⟩
end B
/-! B: fields of own instances; max of a list; slices by places -/
namespace B
open PySem L2
open PySem.W (Tup T3 T4 Datum DatumOrd)
open Evl (Ex)
section
variable {α : Type} [Py α] {K : Fg} {C x : Addr} {W W' : Wd} {σ : SS} {i : Nat} {f : Str} {v : V} {y : α} {fs : List (Str × V)} {dx : Addr} {tv : TE} {ε : Ef}
/-- o.f -/
theorem ev_fld (c : Cls K C) (n : NoAttr K C f) (hd : σ[i]? = some (some (.ref x))) (hb : W.B x = none) (hh : W.H x = some (.ins C dx fs)) (hS : x ∉ ε.S) (hl : fs.lookup f = some v) (r : rep K W.B v y) : EvR ε K (tFld K (tVar i) f) σ W y := fun W1 g1 Q k => by
  have m := g1.md.mut hS hh hb
  exact ⟨_, hd, x, C, dx, fs, v, rfl, m.1, c, n, hl, k v W1 g1.rf (rep_s g1 r)⟩
/-- o.f = v -/
theorem s_fld {D : Ends} (c : Cls K C) (n : NoAttr K C f) (hd : σ[i]? = some (some (.ref x))) (hb : W.B x = none) (hh : W.H x = some (.ins C dx fs)) (hl : fs.length < 1000) (hv : EvR pur K tv σ W y)
    (q : ∀ v W', Md [x] W W' → On W W' → W'.B x = none → W'.H x = some (.ins C dx (putF f v fs)) → rep K W'.B v y → D.nx σ W'.H) : sFld K (tVar i) tv f D σ W.H := hv W (.start trivial) _ fun v W1 g1 rv => by
  have m := g1.pure.mut (by simp) hh hb
  exact ⟨_, hd, x, C, dx, fs, rfl, m.1, c, n, hl, q v (W1.put x _ m.2) ((Grow.s g1.pure).trans (md_put m.2)) (g1.on.trans (md_put m.2).on) m.2 upd_same rv⟩
theorem q_fld {D : Ends} {tz : TS} (c : Cls K C) (n : NoAttr K C f) (hd : σ[i]? = some (some (.ref x))) (hb : W.B x = none) (hh : W.H x = some (.ins C dx fs)) (hl : fs.length < 1000) (hv : EvR pur K tv σ W y)
    (q : ∀ v W', Md [x] W W' → On W W' → W'.B x = none → W'.H x = some (.ins C dx (putF f v fs)) → rep K W'.B v y → tz D σ W'.H) : tSeq (sFld K (tVar i) tv f) tz D σ W.H := s_fld (D := { D with nx := tz D }) c n hd hb hh hl hv q
/-- isinstance(o, C) of an instance of C -/
theorem ev_isOwn (c : ClsI K C) (hd : σ[i]? = some (some (.ref x))) (hb : W.B x = none) (hh : W.H x = some (.ins C dx fs)) (hS : x ∉ ε.S) : EvR ε K (tCB (rIsi K) (tCons (tVar i) (tCons (tC (.ref C)) tNil))) σ W true := fun W1 g1 Q k => by
  have m := g1.md.mut hS hh hb
  refine ⟨_, hd, ?_⟩
  show rIsi K [.ref x, .ref C] W1.H Q
  exact rc_isi_own c m.1 (k _ W1 g1.rf rfl)
/-- max(xs) -/
theorem rc_max {xs : List Int} {m : Int} (h1 : m ∈ xs) (h2 : ∀ y ∈ xs, y ≤ m) : RC1 K (rMax K) xs m := fun v W1 ⟨a, vs, e, s, r⟩ Q k => ⟨a, xs, by rw [e], by rw [← reps_int r]; exact SqL.of (W1.sub.el s), List.length_pos_of_mem h1, fun m' h3 h4 => by
  have : m' = m := Int.le_antisymm (h2 m' h3) (h4 m h1)
  rw [this]
  exact k _ W1 (.refl _ _) rfl⟩
end
theorem cut_to {α : Type} {xs : List α} {n : Nat} (h : n ≤ xs.length) : cutL xs none (some (n : Int)) = xs.take n := by
  unfold cutL
  rw [HT.sIx_none, HT.sIx_nat, List.drop_zero, Nat.sub_zero, Nat.min_eq_left h]
theorem cut_from {α : Type} {xs : List α} {n : Nat} (h : n ≤ xs.length) : cutL xs (some (n : Int)) none = xs.drop n := by
  unfold cutL
  rw [HT.sIx_none, HT.sIx_nat, Nat.min_eq_left h, List.take_of_length_le]
  rw [List.length_drop]
  exact Nat.le_refl _
theorem cut_toN {α : Type} {xs : List α} {n : Nat} : cutL xs none (some (n : Int)) = xs.take n := by
  unfold cutL
  rw [HT.sIx_none, HT.sIx_nat, List.drop_zero, Nat.sub_zero]
  by_cases h : n ≤ xs.length
  · rw [Nat.min_eq_left h]
  · rw [Nat.min_eq_right (by omega), List.take_of_length_le (Nat.le_refl _), List.take_of_length_le (by omega)]
end B
/-! B: more rules: lists that change, dict comprehensions, calls of three and four, targets of three and four names, list(range) -/
namespace B
open PySem L2
open PySem.W (Tup T3 T4 Datum DatumOrd)
open Evl (Ex)
section
variable {α β γ δ : Type} [Py α] [Py β] [Py γ] [Py δ] {K : Fg} {W W' : Wd} {σ : SS} {ε : Ef} {te ta tb tc td : TE} {i : Nat} {d : Addr} {S : List Addr}
theorem ty_tup {xs : Tup α} (W1 : Wd) (v : V) (h : rep K W1.B v xs) : TyX K W1.H v (.type "tuple") := by
  obtain ⟨a, vs, rfl, h1, _⟩ := h
  exact .base (.tup (W1.sub.et h1))
theorem ty_lst {xs : List α} (W1 : Wd) (v : V) (h : rep K W1.B v xs) : TyX K W1.H v (.type "list") := by
  obtain ⟨a, vs, rfl, h1, _⟩ := h
  exact .base (.lst (W1.sub.el h1))
/-- isinstance(x, (c1, c2)), built-in classes -/
theorem ev_isi2 {x : α} {a c1 c2 : String} {b1 b2 : Bool} (h : EvR ε K te σ W x) (ht : ∀ (W1 : Wd) v, rep K W1.B v x → TyX K W1.H v (.type a)) (h1 : kitB a c1 = some b1) (h2 : kitB a c2 = some b2) : EvR ε K (tCB (rIsiT K) (tCons te (tCons (tTup (tCons (tC (.ty c1)) (tCons (tC (.ty c2)) tNil))) tNil))) σ W (b1 || b2) := fun W1 g1 Q k =>
  h W1 g1 _ fun v W2 g2 r => ⟨Evl.sz_of (by show 2 ≤ 100000; decide), fun p hp => ⟨v, p, [.ty c1, .ty c2], .type a, [.type c1, .type c2], b1 || b2, rfl, upd_same, .cons (.ty c1) (.cons (.ty c2) .nil), ht (W2.add p (.tup [.ty c1, .ty c2])) v (rep_g (W2.grow_add hp) r), by
    refine kitAny_cons (kit_ty h1) (fun e => ?_) (fun e => by rw [e]; rfl)
    rw [e, Bool.false_or]
    exact kitAny_cons (kit_ty h2) (fun e2 => by rw [e2]; exact kitAny_nil) (fun e2 => e2), k _ (W2.add p _) (g2.and (W2.grow_add hp)) rfl⟩⟩
/-! ### calls of three, four -/
theorem ev_callP3 {P1 P2 P3 R : V → Wd → Prop} {sp : Sp} {E : XK} (ha : EvP ε ta σ W P1) (hb : EvP ε tb σ W P2) (hc : EvP ε tc σ W P3) (m1 : ∀ v W W', Stp ε W W' → P1 v W → P1 v W') (m2 : ∀ v W W', Stp ε W W' → P2 v W → P2 v W')
    (hs : ∀ v1 v2 v3 W1, Stp ε W W1 → P1 v1 W1 → P2 v2 W1 → P3 v3 W1 → ∀ Q : VK, (∀ u W2, Stp ε W1 W2 → R u W2 → Q u W2.H) → sp [v1, v2, v3] W1.H Q E) : EvP ε (tCall sp [] E (tCons ta (tCons tb (tCons tc tNil)))) σ W R := fun W1 g1 Q k =>
  ha W1 g1 _ fun v1 W2 g2 p1 => hb W2 (g1.trans g2) _ fun v2 W3 g3 p2 => hc W3 ((g1.trans g2).trans g3) _ fun v3 W4 g4 p3 => hs v1 v2 v3 W4 (((g1.trans g2).trans g3).trans g4) (m1 _ _ _ (g3.trans g4) p1) (m2 _ _ _ g4 p2) p3 Q fun u W5 g5 r => k u W5 (((g2.trans g3).trans g4).trans g5) r
theorem ev_callP4 {P1 P2 P3 P4 R : V → Wd → Prop} {sp : Sp} {E : XK} (ha : EvP ε ta σ W P1) (hb : EvP ε tb σ W P2) (hc : EvP ε tc σ W P3) (hd : EvP ε td σ W P4) (m1 : ∀ v W W', Stp ε W W' → P1 v W → P1 v W') (m2 : ∀ v W W', Stp ε W W' → P2 v W → P2 v W') (m3 : ∀ v W W', Stp ε W W' → P3 v W → P3 v W')
    (hs : ∀ v1 v2 v3 v4 W1, Stp ε W W1 → P1 v1 W1 → P2 v2 W1 → P3 v3 W1 → P4 v4 W1 → ∀ Q : VK, (∀ u W2, Stp ε W1 W2 → R u W2 → Q u W2.H) → sp [v1, v2, v3, v4] W1.H Q E) : EvP ε (tCall sp [] E (tCons ta (tCons tb (tCons tc (tCons td tNil))))) σ W R := fun W1 g1 Q k =>
  ha W1 g1 _ fun v1 W2 g2 p1 => hb W2 (g1.trans g2) _ fun v2 W3 g3 p2 => hc W3 ((g1.trans g2).trans g3) _ fun v3 W4 g4 p3 => hd W4 (((g1.trans g2).trans g3).trans g4) _ fun v4 W5 g5 p4 =>
    hs v1 v2 v3 v4 W5 ((((g1.trans g2).trans g3).trans g4).trans g5) (m1 _ _ _ ((g3.trans g4).trans g5) p1) (m2 _ _ _ (g4.trans g5) p2) (m3 _ _ _ g5 p3) p4 Q fun u W6 g6 r => k u W6 ((((g2.trans g3).trans g4).trans g5).trans g6) r
/-- a variable that holds what P tells -/
theorem ep_var {P : V → Wd → Prop} {v : V} (h : σ[i]? = some (some v)) (p : P v W) (m : ∀ W', Stp ε W W' → P v W') : EvP ε (tVar i) σ W P := fun W1 g1 Q k => ⟨v, h, k v W1 g1.rf (m W1 g1)⟩
/-- a method called -/
theorem ev_meth0 {R : V → Wd → Prop} {C : Addr} {m : Str} {sp : Sp} {E : XK} {x : Addr} {dx : Addr} {fs : List (Str × V)} (hd : σ[i]? = some (some (.ref x))) (hb : W.B x = none) (hh : W.H x = some (.ins C dx fs)) (hS : x ∉ ε.S) (hl : fs.lookup m = none)
    (hs : ∀ W1, Stp ε W W1 → ∀ Q : VK, (∀ u W2, Stp ε W1 W2 → R u W2 → Q u W2.H) → sp [.ref x] W1.H Q E) : EvP ε (tMeth C m sp [] E (tVar i) tNil) σ W R := fun W1 g1 Q k => by
  have mm := g1.md.mut hS hh hb
  exact ⟨_, hd, x, dx, fs, rfl, mm.1, hl, hs W1 g1 Q k⟩
/-! ### targets -/
theorem gt_t3 {j1 j2 j3 : Nat} {p : T3 α β γ} {v : V} {Q : SS → Hp → Prop} (r : rep K W.B v p) (k : ∀ v1 v2 v3, rep K W.B v1 p.a → rep K W.B v2 p.b → rep K W.B v3 p.c → Q (((σ.set j1 (some v1)).set j2 (some v2)).set j3 (some v3)) W.H) : gTup K 3 (gCons (gName j1) (gCons (gName j2) (gCons (gName j3) gNil))) v σ W.H Q := by
  obtain ⟨a, x, y, z, e, h, r1, r2, r3⟩ := r
  exact ⟨a, [x, y, z], e, SqT.of (W.sub.et h), rfl, x, [y, z], rfl, y, [z], rfl, z, [], rfl, rfl, k x y z r1 r2 r3⟩
theorem gt_t4 {j1 j2 j3 j4 : Nat} {p : T4 α β γ δ} {v : V} {Q : SS → Hp → Prop} (r : rep K W.B v p) (k : ∀ v1 v2 v3 v4, rep K W.B v1 p.a → rep K W.B v2 p.b → rep K W.B v3 p.c → rep K W.B v4 p.d → Q ((((σ.set j1 (some v1)).set j2 (some v2)).set j3 (some v3)).set j4 (some v4)) W.H) : gTup K 4 (gCons (gName j1) (gCons (gName j2) (gCons (gName j3) (gCons (gName j4) gNil)))) v σ W.H Q := by
  obtain ⟨a, x, y, z, w, e, h, r1, r2, r3, r4⟩ := r
  exact ⟨a, [x, y, z, w], e, SqT.of (W.sub.et h), rfl, x, [y, z, w], rfl, y, [z, w], rfl, z, [w], rfl, w, [], rfl, rfl, k x y z w r1 r2 r3 r4⟩
theorem gt_p2 {j1 j2 : Nat} {p : α × β} {v : V} {Q : SS → Hp → Prop} (r : rep K W.B v p) (k : ∀ v1 v2, rep K W.B v1 p.1 → rep K W.B v2 p.2 → Q ((σ.set j1 (some v1)).set j2 (some v2)) W.H) : gPair K j1 j2 v σ W.H Q := by
  obtain ⟨a, x, y, e, h, r1, r2⟩ := r
  exact ⟨a, [x, y], e, SqT.of (W.sub.et h), rfl, x, [y], rfl, y, [], rfl, rfl, k x y r1 r2⟩
theorem gt_u2 {j1 j2 : Nat} {x y : α} {v : V} {Q : SS → Hp → Prop} (r : rep K W.B v [x, y]) (k : ∀ v1 v2, rep K W.B v1 x → rep K W.B v2 y → Q ((σ.set j1 (some v1)).set j2 (some v2)) W.H) : gUnl K 2 (gCons (gName j1) (gCons (gName j2) gNil)) v σ W.H Q := by
  obtain ⟨a, vs, e, h, r⟩ := r
  cases r with
  | cons r1 r =>
    cases r with
    | cons r2 r =>
      cases r
      exact ⟨a, _, e, SqL.of (W.sub.el h), rfl, _, _, rfl, _, _, rfl, rfl, k _ _ r1 r2⟩
theorem ev_t4 {x : α} {y : β} {z : γ} {w : δ} (ha : EvR ε K ta σ W x) (hb : EvR ε K tb σ W y) (hc : EvR ε K tc σ W z) (hd : EvR ε K td σ W w) : EvR ε K (tTup (tCons ta (tCons tb (tCons tc (tCons td tNil))))) σ W (T4.mk x y z w) := fun W1 g1 Q k =>
  ha W1 g1 _ fun a W2 g2 ra => hb W2 (g1.trans g2) _ fun b W3 g3 rb => hc W3 ((g1.trans g2).trans g3) _ fun c W4 g4 rc => hd W4 (((g1.trans g2).trans g3).trans g4) _ fun e W5 g5 re => ⟨Evl.sz_of (by show 4 ≤ 100000; decide), fun p hp =>
    k _ (W5.add p (.tup [a, b, c, e])) ((((g2.trans g3).trans g4).trans g5).and (W5.grow_add hp)) ⟨p, a, b, c, e, rfl, upd_same, rep_g (W5.grow_add hp) (rep_s g5 (rep_s g4 (rep_s g3 ra))), rep_g (W5.grow_add hp) (rep_s g5 (rep_s g4 rb)), rep_g (W5.grow_add hp) (rep_s g5 rc), rep_g (W5.grow_add hp) re⟩⟩
/-- an item of a tuple of four -/
theorem ro_ixQ {p : T4 α β γ δ} : RO K (rIxT K) p (0 : Int) p.a ∧ RO K (rIxT K) p (1 : Int) p.b ∧ RO K (rIxT K) p (2 : Int) p.c ∧ RO K (rIxT K) p (3 : Int) p.d := by
  refine ⟨ro_val fun v u W1 rv ru Q k => ?_, ro_val fun v u W1 rv ru Q k => ?_, ro_val fun v u W1 rv ru Q k => ?_, ro_val fun v u W1 rv ru Q k => ?_⟩ <;>
  · obtain ⟨a, x, y, z, w, e, h, r1, r2, r3, r4⟩ := rv
    exact ⟨a, [x, y, z, w], _, _, e, ru, SqT.of (W1.sub.et h), rfl, k _ (by first | exact r1 | exact r2 | exact r3 | exact r4)⟩
/-- list(range(a, b)) -/
theorem ev_lstRg {a b : Int} (ha : EvR ε K ta σ W a) (hb : EvR ε K tb σ W b) (h : RgOk a b) : EvR ε K (tLstRg (tRg2 ta tb)) σ W (rng a (b - a).toNat) := fun W1 g1 Q k =>
  ha W1 g1 _ fun v W2 g2 ra => hb W2 (g1.trans g2) _ fun u W3 g3 rb => ⟨a, b, ra, rb, h, fun p hp => k _ (W3.add p _) ((g2.trans g3).and (W3.grow_add hp)) ⟨p, _, rfl, upd_same, by
    have : rgV a b = (rng a (b - a).toNat).map V.int := by
      unfold rgV rng
      rw [List.map_map]
      rfl
    rw [this]
    exact int_reps _⟩⟩
/-! ### lists that change -/
structure LMut (K : Fg) (W : Wd) (d : Addr) (xs : List α) : Prop where
  b : W.B d = none
  ex : ∃ vs, W.H d = some (.lst vs) ∧ Reps K W.B vs xs
theorem LMut.g {xs : List α} (m : LMut K W d xs) (g : Md S W W') (h : d ∉ S) : LMut K W' d xs := by
  obtain ⟨vs, e, r⟩ := m.ex
  have := g.mut h e m.b
  exact ⟨this.2, vs, this.1, Reps.mono (exExt g.b) r⟩
theorem LMut.gr {xs : List α} (m : LMut K W d xs) (g : Grow W W') : LMut K W' d xs := m.g g (by simp)
theorem LMut.nt {xs : List α} (m : LMut K W d xs) : Nt W.H d := by
  obtain ⟨vs, e, _⟩ := m.ex
  exact .l e
/-- xs.append(y) -/
theorem s_append {D : Ends} {xs : List α} {y : α} (hd : σ[i]? = some (some (.ref d))) (m : LMut K W d xs) (h : EvR pur K te σ W y) (hl : xs.length < 100000) (q : ∀ W', Md [d] W W' → On W W' → LMut K W' d (xs ++ [y]) → D.nx σ W'.H) : tDrop (tBM K "list" rAppend (tVar i) (tCons te tNil)) D σ W.H := by
  obtain ⟨vs, e, r⟩ := m.ex
  refine ⟨_, hd, .inl ⟨rfl, vs, SqL.of e⟩, h W (.start trivial) _ fun v W1 g1 rv => ?_⟩
  obtain ⟨vs1, e1, r1⟩ := (m.gr g1.pure).ex
  have b1 := (m.gr g1.pure).b
  exact ⟨d, vs1, v, rfl, rfl, e1, by rw [Reps.len r1]; exact Evl.sz_lt hl, q (W1.put d _ b1) ((Grow.s g1.pure).trans (md_put b1)) (g1.on.trans (md_put b1).on) ⟨b1, _, upd_same, Reps.snoc r1 rv⟩⟩
theorem q_append {D : Ends} {tz : TS} {xs : List α} {y : α} (hd : σ[i]? = some (some (.ref d))) (m : LMut K W d xs) (h : EvR pur K te σ W y) (hl : xs.length < 100000) (q : ∀ W', Md [d] W W' → On W W' → LMut K W' d (xs ++ [y]) → tz D σ W'.H) : tSeq (tDrop (tBM K "list" rAppend (tVar i) (tCons te tNil))) tz D σ W.H := s_append (D := { D with nx := tz D }) hd m h hl q
/-- it shall stay -/
theorem LMut.fix {xs : List α} (m : LMut K W d xs) : ∃ o, ∃ h : W.H d = some o, rep K (W.fix d o h).B (.ref d) xs ∧ Ex W.B (W.fix d o h).B ∧ ∀ W0 S, Md S W0 W → W0.H d = none → Md S W0 (W.fix d o h) := by
  obtain ⟨vs, e, r⟩ := m.ex
  exact ⟨_, e, ⟨d, vs, rfl, upd_same, Reps.mono (exExt (ex_fix e m.b)) r⟩, ex_fix e m.b, fun W0 S g f => md_fix g e m.b f⟩
/-- a list that changes, read -/
theorem LMut.rv {xs : List α} (m : LMut K W d xs) : ∃ vs, W.H d = some (.lst vs) ∧ Reps K W.B vs xs := m.ex
end
/-! ### {k: v for x in ..} -/
section
variable {α β κ : Type} [Py α] [Py β] [DecidableEq κ] [PyKey κ] {K : Fg} {W : Wd} {σ : SS} {ε : Ef} {tk tv : TE} {wi : TI}
theorem ed_dcN {j : Nat} {xs : List α} {f : α → κ} {g : α → β} (hi : EvI ε K wi σ W xs) (hk : ∀ x v W', x ∈ xs → Stp ε W W' → rep K W'.B v x → EvP ε tk ((wipe σ [j]).set j (some v)) W' (fun u _ => u = kV (PyKey.key (f x)))) (he : ∀ x v W', x ∈ xs → Stp ε W W' → rep K W'.B v x → EvR ε K tv ((wipe σ [j]).set j (some v)) W' (g x)) (hl : xs.length < 100000) :
    ∀ W1, Stp ε W W1 → ∀ Q : VK, (∀ p W2, Stp ε W1 W2 → W1.H p = none → DMut K W2 p (xs.foldl (fun kv x => kput kv (f x) (g x)) []) → Q (.ref p) W2.H) → tDc wi (gName j) tYes tk tv [j] σ W1.H Q := fun W1 g1 Q k =>
  hi W1 g1 _ fun J S W2 g2 s2 sg src D hD => by
    have DS : D ∉ ε.S := Ef.off g2.i hD
    refine ⟨fun i m H => m = xs.length - i ∧ i ≤ xs.length ∧ ∃ Wi, Wi.H = H ∧ Stp ε W2 Wi ∧ DMut K Wi D ((xs.take i).foldl (fun kv x => kput kv (f x) (g x)) []) ∧ ((xs.take i).foldl (fun kv x => kput kv (f x) (g x)) []).length ≤ i, ⟨xs.length, rfl, Nat.zero_le _, W2.put D (.dK []) (W2.free hD), rfl, ⟨md_mut (.refl _ _) (W2.free hD) hD, i_put DS g2.i _⟩, DMut.new W2 hD, Nat.le_refl _⟩, ?_⟩
    rintro i m H ⟨rfl, hle, Wi, rfl, gi, dm, dl⟩
    have si : S Wi := sg _ _ s2 gi
    by_cases hlt : i < xs.length
    · refine .inr ⟨src.go i Wi si hlt, fun H => i + 1 ≤ xs.length ∧ ∃ Wi, Wi.H = H ∧ Stp ε W2 Wi ∧ DMut K Wi D ((xs.take (i + 1)).foldl (fun kv x => kput kv (f x) (g x)) []) ∧ ((xs.take (i + 1)).foldl (fun kv x => kput kv (f x) (g x)) []).length ≤ i + 1, fun H' h' => ⟨_, by omega, rfl, h'⟩, fun v H'' hy => ?_⟩
      obtain ⟨x, W3, rfl, g3', hx, r⟩ := src.yld i Wi v H'' si hlt hy
      have g3 : Stp ε Wi W3 := gi.rf.and g3'
      have hm := List.mem_of_getElem? hx
      have G3 := ((g1.trans g2).trans gi).trans g3
      refine ⟨wipe1, et_yes (ε := ε) W3 g3.rf _ fun W4 g4 => ?_⟩
      rw [if_pos rfl]
      have G4 := G3.trans g4
      refine hk x v W4 hm G4 (rep_s g4 r) W4 g4.rf _ fun u W5 g5 eu => he x v W5 hm (G4.trans g5) (rep_s g5 (rep_s g4 r)) W5 g5.rf _ fun w W6 g6 rw' => ?_
      have G6 : Stp ε Wi W6 := ((g3.trans g4).trans g5).trans g6
      obtain ⟨ks, e6, r6⟩ := (dm.s G6 DS).ex
      have b6 := (dm.s G6 DS).b
      have tk' : xs.take (i + 1) = xs.take i ++ [x] := by rw [List.take_add_one, hx]; rfl
      have ef : (xs.take (i + 1)).foldl (fun kv x => kput kv (f x) (g x)) [] = kput ((xs.take i).foldl (fun kv x => kput kv (f x) (g x)) []) (f x) (g x) := by rw [tk', List.foldl_append]; rfl
      refine ⟨ks, PyKey.key (f x), eu, e6, by rw [KReps.len r6]; exact Evl.sz_lt (by omega), hlt, W6.put D _ b6, rfl, ⟨md_mut (gi.trans G6).md b6 hD, i_put DS G6.i _⟩, ⟨b6, _, upd_same, ?_⟩, ?_⟩
      · rw [ef]
        exact KReps.put r6 (f x) rw'
      · rw [ef]
        have := kput_len ((xs.take i).foldl (fun kv x => kput kv (f x) (g x)) []) (f x) (g x)
        omega
    · have e : i = xs.length := by omega
      subst e
      rw [List.take_length] at dm
      exact .inl ⟨src.stop _ Wi si (Nat.le_refl _), k D Wi (g2.trans gi) (by
        cases e : W1.H D with
        | none => rfl
        | some o => exact absurd hD (g2.md.d D (by rw [e]; exact fun z => by cases z))) dm⟩
end
/-- xs = xs + ys, xs a list that changes: a new one that may change -/
theorem s_catM {α : Type} [Py α] {K : Fg} {σ : SS} {W : Wd} {D : Ends} {te : TE} {i : Nat} {d : Addr} {xs ys : List α} (hd : σ[i]? = some (some (.ref d))) (m : LMut K W d xs) (h : EvR pur K te σ W ys) (hl : xs.length + ys.length ≤ 100000)
    (q : ∀ d' W', Grow W W' → W.H d' = none → LMut K W' d' (xs ++ ys) → D.nx (σ.set i (some (.ref d'))) W'.H) : tAsg (tOp rCat (tVar i) te) (gName i) D σ W.H := ⟨_, hd, h W (.start trivial) _ fun v W1 g1 ⟨b, us, e, s, r⟩ => by
  obtain ⟨vs, e1, r1⟩ := (m.gr g1.pure).ex
  refine ⟨d, b, vs, us, rfl, e, e1, W1.sub.el s, Evl.sz_of (by rw [Reps.len r1, Reps.len r]; exact hl), fun p hp => q p (W1.put p _ (W1.free hp)) (g1.pure.trans (W1.grow_put hp)) ?_ ⟨W1.free hp, _, upd_same, Reps.app r1 r⟩⟩
  cases z : W.H p with
  | none => rfl
  | some o => exact absurd hp (g1.md.d p (by rw [z]; exact fun y => by cases y))⟩
theorem q_asgG {α : Type} [Py α] {ε : Ef} {K : Fg} {σ : SS} {W : Wd} {D : Ends} {te : TE} {g : TG} {tz : TS} {x : α} (h : EvR ε K te σ W x) (s : ε.I W) (k : ∀ v W', Stp ε W W' → rep K W'.B v x → g v σ W'.H fun σ2 H2 => tz D σ2 H2) : tSeq (tAsg te g) tz D σ W.H := h W (.start s) _ k
theorem EvJ.toIs {α : Type} [Py α] {ε : Ef} {K : Fg} {wi : TI} {σ : SS} {W : Wd} {xs ys : List α} (h : EvJ ε K wi σ W xs) (e : xs = ys) : EvJ ε K wi σ W ys := e ▸ h
end B
/-! B: a row that is a list or a tuple, walked; sorted(set(tuple)); a tuple's steps -/
namespace BY
open PySem PySem.Spec PyProof.Rows L2
section
variable {prog : Program} {w : World} {A : Around} {E : Value → Shared → Prop} {s : Shared} {a : Addr}
theorem sorted_setO {S : Int → Bool} {n : Nat} {Q : Value → Shared → Prop} (R : SetR w s.heap a S n) (hh : A.handled = none) (hz0 : n ≤ 4000)
    (hQ : ∀ s' p (out : List Value) (c : Nat) (ns : List Int), (∀ b o, s.heap.get? b = some o → s'.heap.get? b = some o) → s'.gens = s.gens → s'.os = s.os → s.heap.objs.size ≤ p →
      s'.heap.get? p = some (seqObj "list" out.toArray c) → IntsAre out ns → ns.Pairwise (· < ·) → (∀ k, k ∈ ns ↔ S k = true) → ns.length = n → Q (.ref p) s') :
    wpAny (model prog w) A (call (.builtin "sorted") [.ref a]) Q E s := by
  obtain ⟨o, es, ep, t, ho, hex, hd, g, nd, hm, hb, hf, hn, hr, hl⟩ := R
  refine Calls.call_function_entry kind_sorted plain_sorted entry_sorted (args_sorted1 _) ?_
  unfold Builtin.«sorted»
  refine wpAny_bind (m := checkCount "sorted" 1 1 _) (wpAny_pure ?_)
  refine wpAny_bind (collect_set (A := A.in1) hh ⟨o, ho, hex.1, hd⟩ hf hb hr hl fun s1 vs k1 hz g1 o1 pm => ?_)
  have hvl : vs.length = n := by rw [pm.length_eq, List.length_map, Array.length_toList]; exact hn
  have hI : IntsAre vs (vs.map Builtin.Re.reRawOf) := ints_of vs fun v hv => by
    obtain ⟨e, he, q⟩ := List.mem_map.mp (pm.mem_iff.mp hv)
    obtain ⟨k, tk, h1, _⟩ := g e he
    exact ⟨k, tk, by rw [← q]; exact h1⟩
  have pk : (vs.map Builtin.Re.reRawOf).Perm (es.toList.map keyOf) := by
    have q := pm.map Builtin.Re.reRawOf
    rw [List.map_map] at q
    exact q
  have hzl : vs.length ≤ sizeLine := by rw [hvl, sizeLine_eq]; omega
  refine wpAny_bind (wpAny_newList ?_ hzl)
  have hoL : (s1.heap.push (seqObj "list" vs.toArray 0)).get? s1.heap.objs.size = some (seqObj "list" vs.toArray 0) := Heap.get?_push_size _ rfl
  refine wpAny_bind (wpAny_holding (wpAny_call_entry slot_list_sort ⟨_, hoL, rfl⟩ entry_list_sort (SrtO.list_sort_ord SrtO.swo_int hoL hzl (fun h2 => SrtO.ints_sortable hI h2) fun out hs hb' => ⟨_, rfl, ?_⟩) (args_list_sort _)))
  obtain ⟨c, hc⟩ := sortedHeap_at (vs := vs) (out := out.toArray) hoL
  obtain ⟨a1, a2, a3⟩ := SrtO.ints_out hI hs hb'
  have pn : (out.map SrtO.iv).Perm (es.toList.map keyOf) := a2.trans pk
  refine wpAny_pure ⟨_, rfl, hQ _ s1.heap.objs.size out c (out.map SrtO.iv) (fun b u e => ?_) g1 o1 hz hc a1 (lt_of_le_nodup _ a3 (pn.nodup_iff.mpr nd)) (fun k => by rw [pn.mem_iff, ← hm k]) ?_⟩
  · have q := k1 b u e
    have hlt := Heap.lt_size q
    show (sortedHeap (s1.heap.push (seqObj "list" vs.toArray 0)) s1.heap.objs.size vs out.toArray).get? b = some u
    rw [sortedHeap_old (Nat.ne_of_lt hlt) (by rw [size_push']; exact Nat.lt_succ_of_lt hlt)]
    exact Heap.get?_push_of_some _ q
  · rw [pn.length_eq, List.length_map, Array.length_toList]; exact hn
end
section
variable {X : Cx} {tg : Expr}
/-- sorted(set(t)), a tuple of ints -/
def tSortSet (K : PySem.W.Frag) (ta : TE) : TE := fun σ H Q => ta σ H fun x H1 => ∃ (l : Addr) (ns : List Int), x = .ref l ∧ SqT K H1 l (ns.map V.int) ∧ ns.length ≤ 4000 ∧
  ∀ (ns' : List Int) (p : Addr), ns'.Pairwise (· < ·) → (∀ k, k ∈ ns' ↔ k ∈ ns) → H1 p = none → Q (.ref p) (upd H1 p (.lst (ns'.map V.int)))
theorem set_sorted {pins : List (Addr × Obj)} {σ : L2.St} {H1 : Hp} {s2 : Shared} {b : Addr} {ns : List Int} {c : Nat} {Q : VK} (I2 : L2.Inv X pins σ H1 s2) (hS : SetR X.w s2.heap b (fun j => decide (j ∈ ns)) c) (hc4 : c ≤ 4000) (hc : X.calm = true)
    (q1 : ∀ (ns' : List Int) (p : Addr), ns'.Pairwise (· < ·) → (∀ k, k ∈ ns' ↔ k ∈ ns) → H1 p = none → Q (.ref p) (upd H1 p (.lst (ns'.map V.int)))) :
    wpAny (model X.prog X.w) X.A (call (.builtin "sorted") [.ref b]) (EP X pins σ Q) X.xe s2 := by
  refine sorted_setO hS (I2.ok.hd hc) hc4 fun s' p out c2 ns' k g o hp hg' hi hs hm' hl' => ?_
  have hlen' : (ns'.map V.int).length ≤ sizeLine := by rw [List.length_map, hl', sizeLine_eq]; omega
  have hn : H1 p = none := I2.hok.fresh hp
  have J : Inv X pins σ (upd H1 p (.lst (ns'.map V.int))) { s2 with heap := s'.heap, gens := s'.gens, drawn := s'.drawn, toks := s'.toks } :=
    I2.call (ch := []) (Un.laid k hp hn) (I2.hok.laid k hp ⟨hlen', out, c2, vals_of_ints hi, hg'⟩) (by rw [g]; exact I2.bare) (fun _ z => nomatch z)
  have e : s' = { s2 with heap := s'.heap, gens := s'.gens, drawn := s'.drawn, toks := s'.toks } := by
    cases s'
    cases s2
    cases o
    rfl
  rw [e]
  exact ⟨.ref p, _, J, rfl, q1 ns' p hs (fun k => by rw [hm' k, decide_eq_true_eq]) hn⟩
theorem pe_sortSet {a : Expr} {ta : TE} {p p2 q pos : Pos} (hg : Gl X "sorted") (hm : X.mg "sorted" = none) (hg2 : Gl X "set") (hm2 : X.mg "set" = none) (ha : PE X a ta) (hc : X.calm = true := by rfl)
    (na : starEach [a] X.env = (false, eval a X.env) :: starEach [] X.env := by rfl) : PE X (.Call (.Name "sorted" p) [.Call (.Name "set" p2) [a] [] q] [] pos) (tSortSet X.K ta) := by
  refine ⟨fun pins s σ H Q I h => ?_⟩
  refine Call_ (ld_blt I hg hm (show bootBuiltins "sorted" = some (.builtin "sorted") by decide +kernel) ?_)
  refine PyProof.Rows.callWith_builtin1 (PyProof.Rows.args_cons ?_ rfl) rfl rfl
  refine Call_ (ld_blt I hg2 hm2 boot_set ?_)
  refine PyProof.Rows.callWith_type1 (PyProof.Rows.args_cons (thn (ha.run pins s σ H _ I h) fun v s1 ⟨x, H1, I1, r1, q1⟩ => PyProof.Rows.args_nil ?_) na) na rfl
  obtain ⟨l, ns, rfl, hq, hl, q1⟩ := q1
  cases r1
  obtain ⟨its, r, pl, hz⟩ := I1.tuple hq
  have hlen : its.length = ns.length := by rw [← r.length, List.length_map]
  refine call_set_tupI ns (I1.ok.hd hc) (items := its.toArray) ?_ (by simpa using r.ints) (by unfold scanBound; omega) fun h' tk c hS hc' hk => ?_
  · exact pl
  refine PyProof.Rows.args_nil ?_
  have I2 : Inv X pins σ H1 { s1 with heap := h', toks := tk } := I1.kept fun b o e => hk b o e
  exact set_sorted I2 hS (by omega) hc q1
/-- a row, a list or a tuple, walked -/
def iSeq (K : PySem.W.Frag) (tl : TE) : TI := fun σ H R => iList K tl σ H R ∨ iTup K tl σ H R
theorem pi_seq {l : Expr} {tl : TE} (hl : PE X l tl) : PI X tg l (iSeq X.K tl) := by
  refine ⟨fun pins s σ H R I h => ?_⟩
  rcases h with h | h
  · exact (pi_list hl).run pins s σ H R I h
  · exact (pi_tup hl).run pins s σ H R I h
/-! ### t[lo:hi:k] -/
theorem vals_pick {xs : List V} {us : List Value} (r : Vals xs us) : ∀ l : List Nat, Vals (l.filterMap fun m => xs[m]?) (l.filterMap fun m => us.toArray[m]?)
  | [] => .nil
  | m :: l => by
    have ih := vals_pick r l
    cases hx : xs[m]? with
    | none =>
      have hu := r.none_of hx
      rw [List.filterMap_cons_none hx, List.filterMap_cons_none (by simpa using hu)]
      exact ih
    | some x =>
      obtain ⟨u, hu, ru⟩ := r.get hx
      rw [List.filterMap_cons_some hx, List.filterMap_cons_some (b := u) (by simpa using hu)]
      exact .cons ru ih
/-- the places of [lo:hi:k] among n -/
def stepIx (lo hi : Option Int) (k : Int) (n : Nat) : List Nat :=
  (List.range (Builtin.Slice.slicePlaces (Builtin.Slice.sliceAdjust lo hi k n).1 (Builtin.Slice.sliceAdjust lo hi k n).2 k)).map fun (m : Nat) => ((Builtin.Slice.sliceAdjust lo hi k n).1 + (m : Int) * k).toNat
def tTupStep (K : PySem.W.Frag) (te : TE) (lo hi : Option Int) (k : Int) : TE := fun σ H Q => te σ H fun x H1 => ∃ a xs, x = .ref a ∧ SqT K H1 a xs ∧ (stepIx lo hi k xs.length).length ≤ sizeLine ∧
  ∀ p, H1 p = none → Q (.ref p) (upd H1 p (.tup ((stepIx lo hi k xs.length).filterMap fun m => xs[m]?)))
/-- a part of a slice that is left out or is a number in the text -/
structure PCn (X : Cx) (e : Option Expr) (o : Option Int) : Prop where
  run : ∀ (pins : List (Addr × Obj)) (s : Shared) (σ : L2.St) (H : Hp) (R : Value → Shared → Prop), Inv X pins σ H s → (∀ u, IsPart u o → ∀ s', Inv X pins σ H s' → R u s') → wpAny (model X.prog X.w) X.A (evalPart e X.env) R X.xe s
theorem pc_none : PCn X none none := ⟨fun pins s σ H R I h => thn (po_none.run pins s σ H (fun o H2 => o = none ∧ H2 = H) I ⟨rfl, rfl⟩) fun vl s2 ⟨l, H2, I2, pl, el, e2⟩ => by
  subst el e2
  exact h _ pl _ I2⟩
theorem pc_pos {i : Nat} {k : Nat} {p : Pos} : PCn X (some (.Constant (.int i) k p)) (some i) := ⟨fun pins s σ H R I h => by
  have hst : PO X (some (.Constant (.int i) k p)) (tPart (tC (.int i))) := po_some pe_int
  exact thn (hst.run pins s σ H (fun o H2 => o = some (i : Int) ∧ H2 = H) I ⟨i, rfl, rfl, rfl⟩) fun vl s2 ⟨l, H2, I2, pl, el, e2⟩ => by
    subst el e2
    exact h _ pl _ I2⟩
theorem pc_neg {i : Nat} {k : Nat} {p p2 : Pos} : PCn X (some (.UnaryOp .USub (.Constant (.int i) k p) p2)) (some (-(i : Int))) := ⟨fun pins s σ H R I h => by
  have hst : PO X (some (.UnaryOp .USub (.Constant (.int i) k p) p2)) (tPart (tUn (rU fun i => .int (-i)) (tC (.int i)))) := po_some (pe_un un_neg pe_int)
  exact thn (hst.run pins s σ H (fun o H2 => o = some (-(i : Int)) ∧ H2 = H) I ⟨i, rfl, _, rfl, rfl, rfl⟩) fun vl s2 ⟨l, H2, I2, pl, el, e2⟩ => by
    subst el e2
    exact h _ pl _ I2⟩
section
variable {prog : Program} {w : World} {A : Around} {E : Value → Shared → Prop} {s : Shared}
theorem sliceApplied_step {sl : Addr} {vl vu vs : Value} {lo hi : Option Int} {k : Int} {n : Nat} {Q : Int × Int × Nat → Shared → Prop} (hs : s.heap.IsSliceOf sl vl vu vs) (pl : IsPart vl lo) (pu : IsPart vu hi) (ps : IsPart vs (some k)) (h0 : k ≠ 0)
    (h : Q ((Builtin.Slice.sliceAdjust lo hi k n).1, k, Builtin.Slice.slicePlaces (Builtin.Slice.sliceAdjust lo hi k n).1 (Builtin.Slice.sliceAdjust lo hi k n).2 k) s) : wpAny (model prog w) A (Builtin.Slice.sliceApplied (.ref sl) (pure (n : Int))) Q E s := by
  obtain ⟨os, hos, hcs, hds⟩ := id hs
  unfold Builtin.Slice.sliceApplied Builtin.Slice.sliceFields
  refine wpAny_bind (wpAny_bind (wpAny_field hos hds (x := vl) rfl (wpAny_bind (wpAny_field hos hds (x := vu) rfl (wpAny_bind (wpAny_field hos hds (x := vs) rfl (wpAny_pure ?_)))))))
  refine wpAny_bind (HT.slicePart_ ps ?_)
  show wpAny _ _ (if (k == 0) = true then _ else _) _ _ s
  rw [if_neg (by simpa using h0)]
  refine wpAny_bind (HT.slicePart_ pl (wpAny_bind (HT.slicePart_ pu (wpAny_bind (wpAny_pure ?_)))))
  exact wpAny_pure h
theorem getItem_tuple_step {t sl : Addr} {items : Array Value} {vl vu vs : Value} {lo hi : Option Int} {k : Int} {Q : Value → Shared → Prop} (ht : IsTup s.heap t items) (hs : s.heap.IsSliceOf sl vl vu vs) (pl : IsPart vl lo) (pu : IsPart vu hi) (ps : IsPart vs (some k)) (h0 : k ≠ 0) (h1 : k ≠ 1)
    (h : Q (.ref s.heap.objs.size) { s with heap := s.heap.push { cls := .type "tuple", data := .seq ((stepIx lo hi k items.size).filterMap fun m => items[m]?).toArray } })
    (hsz : (stepIx lo hi k items.size).length ≤ sizeLine) : wpAny (model prog w) A (getItem (.ref t) (.ref sl)) Q E s := by
  have htake : sizeOk (.seq ((stepIx lo hi k items.size).filterMap fun m => items[m]?).toArray) := by
    show ((stepIx lo hi k items.size).filterMap fun m => items[m]?).toArray.size ≤ sizeLine
    rw [List.size_toArray]
    exact Nat.le_trans (List.length_filterMap_le _ _) hsz
  obtain ⟨os, hos, hcs, hds⟩ := id hs
  have hTs : s.TypeIs (.ref sl) "slice" := ⟨os, hos, hcs⟩
  unfold getItem
  try with_reducible refine wpAny_holding ?_
  first | refine wpAny_bind (wpAny_pure ?_) | skip
  refine wpAny_bind (wpAny_sequenceKey ht.typeIs (by decide) ?_)
  refine wpAny_bind (wpAny_callSpecial?_slot (name := Str.ofString "__getitem__") ht.typeIs PyProof.Rows.slot_tuple_getitem
    (wpAny_call_entry PyProof.Rows.slot_tuple_getitem ht.typeIs entry_tuple_getitem ?_ (args_tuple_getitem _ _)))
  show wpAny _ _ (Builtin.Tuple.tupleItemsOf (.ref t) >>= _) _ _ s
  refine wpAny_bind (tupleItemsOf_ ht ?_)
  refine wpAny_bind (wpAny_typeOf hTs ?_)
  rw [if_pos (by decide)]
  refine wpAny_bind (sliceApplied_step hs pl pu ps h0 ?_)
  have hno : ∀ a b : Bool, ¬ ((a && k == 1 && b) = true) := fun a b q => by
    rw [Bool.and_eq_true, Bool.and_eq_true] at q
    exact h1 (eq_of_beq q.1.2)
  show wpAny _ _ (if ((Builtin.Slice.sliceAdjust lo hi k items.size).1 == 0 && k == 1 && Builtin.Slice.slicePlaces (Builtin.Slice.sliceAdjust lo hi k items.size).1 (Builtin.Slice.sliceAdjust lo hi k items.size).2 k == items.size) = true then _ else _) _ _ s
  rw [if_neg (hno _ _)]
  have e : (List.range (Builtin.Slice.slicePlaces (Builtin.Slice.sliceAdjust lo hi k items.size).1 (Builtin.Slice.sliceAdjust lo hi k items.size).2 k)).filterMap (fun (m : Nat) => items[((Builtin.Slice.sliceAdjust lo hi k items.size).1 + (m : Int) * k).toNat]?)
      = (stepIx lo hi k items.size).filterMap fun m => items[m]? := by
    unfold stepIx
    rw [List.filterMap_map]
    rfl
  rw [e]
  first
    | exact wpAny_bind (m := Builtin.Tuple.tupleExact _) (wpAny_newObj_type (wpAny_pure ⟨_, rfl, wpAny_pure h⟩) htake)
    | exact wpAny_bind (m := Builtin.Tuple.tupleExact _) (wpAny_newObj_type (wpAny_bind (wpAny_pure (wpAny_pure ⟨_, rfl, wpAny_pure h⟩))) htake)
    | exact wpAny_bind (wpAny_bind (m := Builtin.Tuple.tupleExact _) (wpAny_newObj_type (wpAny_pure (wpAny_pure ⟨_, rfl, wpAny_pure h⟩)) htake))
    | exact wpAny_bind (wpAny_bind (m := Builtin.Tuple.tupleExact _) (wpAny_newObj_type (wpAny_pure ⟨_, rfl, wpAny_pure h⟩) htake))
end
theorem pe_tupStep {e : Expr} {te : TE} {lo hi : Option Expr} {st : Expr} {ol oh : Option Int} {k : Int} {p3 pos : Pos} (he : PE X e te) (hl : PCn X lo ol) (hh : PCn X hi oh) (hk : PCn X (some st) (some k)) (h0 : k ≠ 0) (h1 : k ≠ 1) : PE X (.Subscript e (.Slice lo hi (some st) p3) pos) (tTupStep X.K te ol oh k) := by
  refine ⟨fun pins s σ H Q I h => ?_⟩
  refine Subscript_ (thn (he.run pins s σ H _ I h) fun v s1 ⟨x, H1, I1, r1, q1⟩ => ?_)
  obtain ⟨a, xs, ex, hx, hsz, q⟩ := q1
  subst ex
  cases r1
  refine wpAny_Slice (hl.run pins s1 σ H1 _ I1 fun vl pl s2 I2 => hh.run pins s2 σ H1 _ I2 fun vu pu s3 I3 => hk.run pins s3 σ H1 _ I3 fun vs ps s4 I4 => ?_)
  have I5 : Inv X pins σ H1 { s4 with heap := s4.heap.push { cls := .type "slice", data := .fields #[vl, vu, vs] } } := I4.kept (t' := s4.toks) fun b ob q => Heap.get?_push_of_some _ q
  obtain ⟨its, r, ht, hz⟩ := I5.tuple hx
  have hlen : its.toArray.size = xs.length := by rw [List.size_toArray]; exact r.length.symm
  show wpAny (model X.prog X.w) X.A (subscriptTail e (.Slice lo hi (some st) p3) (.ref a) (.ref s4.heap.objs.size)) (EP X pins σ Q) X.xe { s4 with heap := s4.heap.push { cls := .type "slice", data := .fields #[vl, vu, vs] } }
  refine tail_any (ops := [.ref a, .ref s4.heap.objs.size]) ht.typeIs PyProof.Rows.slot_tuple_getitem.lookup ?_ (by with_unfolding_all rfl)
  refine getItem_tuple_step ht (Heap.IsSliceOf.new _ vl vu vs) pl pu ps h0 h1 ?_ (by rw [hlen]; exact hsz)
  rw [hlen]
  refine ⟨.ref _, _, I5.laid (t' := s4.toks) (o := .tup ((stepIx ol oh k xs.length).filterMap fun m => xs[m]?)) (fun b ob q => Heap.get?_push_of_some _ q) (Nat.le_refl _) ?_, rfl, q _ (I5.hok.fresh (Nat.le_refl _))⟩
  exact ⟨Nat.le_trans (List.length_filterMap_le _ _) hsz, _, vals_pick r _, IsTup.new _ _⟩
end
end BY
namespace B
open PySem L2
open PySem.W (Tup T3 T4 Datum DatumOrd)
open Evl (Ex)
section
variable {α β γ δ : Type} [Py α] [Py β] [Py γ] [Py δ] {K : Fg} {W W' : Wd} {σ : SS} {ε : Ef} {te ta tb tc td : TE}
theorem asc_uniq : ∀ {xs ys : List Int}, xs.Pairwise (· < ·) → ys.Pairwise (· < ·) → (∀ k, k ∈ xs ↔ k ∈ ys) → xs = ys
  | [], [], _, _, _ => rfl
  | [], y :: ys, _, _, h => absurd ((h y).mpr List.mem_cons_self) (by simp)
  | x :: xs, [], _, _, h => absurd ((h x).mp List.mem_cons_self) (by simp)
  | x :: xs, y :: ys, h1, h2, h => by
    obtain ⟨a1, a2⟩ := List.pairwise_cons.mp h1
    obtain ⟨b1, b2⟩ := List.pairwise_cons.mp h2
    have e : x = y := by
      have p := (h x).mp List.mem_cons_self
      have q := (h y).mpr List.mem_cons_self
      rcases List.mem_cons.mp p with p | p
      · exact p
      · rcases List.mem_cons.mp q with q | q
        · exact q.symm
        · have := b1 x p
          have := a1 y q
          omega
    subst e
    rw [asc_uniq a2 b2 fun k => ⟨fun m => ?_, fun m => ?_⟩]
    · rcases List.mem_cons.mp ((h k).mp (List.mem_cons_of_mem _ m)) with e | e
      · subst e; have := a1 _ m; omega
      · exact e
    · rcases List.mem_cons.mp ((h k).mpr (List.mem_cons_of_mem _ m)) with e | e
      · subst e; have := b1 _ m; omega
      · exact e
theorem ev_sortSetA {xs : Tup Int} (h : EvR ε K ta σ W xs) (hl : xs.items.length ≤ 4000) (hp : xs.items.Pairwise (· < ·)) : EvR ε K (BY.tSortSet K ta) σ W xs.items := fun W1 g1 Q k => h W1 g1 _ fun v W2 g2 ⟨a, vs, e, s, r⟩ => by
  have e2 := reps_int r
  subst e2
  refine ⟨a, xs.items, e, SqT.of (W2.sub.et s), hl, fun ns p hs hm hn => ?_⟩
  rw [asc_uniq hs hp hm]
  exact k _ (W2.add p _) (g2.and (W2.grow_add hn)) ⟨p, _, rfl, upd_same, Reps.mono (exExt (W2.grow_add hn).b) r⟩
theorem ei_seqL {xs : List α} (h : EvR ε K te σ W xs) : EvJ ε K (BY.iSeq K te) σ W xs := fun W1 g1 R k => .inl (ei_list h W1 g1 R k)
theorem ei_seqT {xs : Tup α} (h : EvR ε K te σ W xs) : EvJ ε K (BY.iSeq K te) σ W xs.items := fun W1 g1 R k => .inr (ei_tup h W1 g1 R k)
/-- a tuple of four, [::2] -/
theorem ev_stepA {p : T4 α β γ δ} (h : EvR ε K te σ W p) : EvR ε K (BY.tTupStep K te none none 2) σ W (p.a, p.c) := fun W1 g1 Q k => h W1 g1 _ fun v W2 g2 ⟨a, x, y, z, w, e, s, r1, r2, r3, r4⟩ => by
  refine ⟨a, _, e, SqT.of (W2.sub.et s), (by decide : (BY.stepIx none none 2 4).length ≤ sizeLine), fun p hp => ?_⟩
  have e2 : (BY.stepIx none none 2 [x, y, z, w].length).filterMap (fun m => [x, y, z, w][m]?) = [x, z] := by
    have : BY.stepIx none none 2 4 = [0, 2] := by decide
    show (BY.stepIx none none 2 4).filterMap _ = _
    rw [this]
    rfl
  rw [e2]
  exact k _ (W2.add p _) (g2.and (W2.grow_add hp)) ⟨p, x, z, rfl, upd_same, rep_g (W2.grow_add hp) r1, rep_g (W2.grow_add hp) r3⟩
/-- a tuple of four, [2::-2] -/
theorem ev_stepB {p : T4 α β α δ} (h : EvR ε K te σ W p) : EvR ε K (BY.tTupStep K te (some 2) none (-2)) σ W (Tup.mk [p.c, p.a]) := fun W1 g1 Q k => h W1 g1 _ fun v W2 g2 ⟨a, x, y, z, w, e, s, r1, r2, r3, r4⟩ => by
  refine ⟨a, _, e, SqT.of (W2.sub.et s), (by decide : (BY.stepIx (some 2) none (-2) 4).length ≤ sizeLine), fun p hp => ?_⟩
  have e2 : (BY.stepIx (some 2) none (-2) [x, y, z, w].length).filterMap (fun m => [x, y, z, w][m]?) = [z, x] := by
    have : BY.stepIx (some 2) none (-2) 4 = [2, 0] := by decide
    show (BY.stepIx (some 2) none (-2) 4).filterMap _ = _
    rw [this]
    rfl
  rw [e2]
  exact k _ (W2.add p _) (g2.and (W2.grow_add hp)) ⟨p, [z, x], rfl, upd_same, .cons (rep_g (W2.grow_add hp) r3) (.cons (rep_g (W2.grow_add hp) r1) .nil)⟩
theorem ro_rep {xs : List α} {n : Int} (h1 : 0 ≤ n) (h2 : n ≤ 1000) (hl : xs.length ≤ 100) : RO K rRep xs n (List.replicate n.toNat xs).flatten := fun v u W1 ⟨a, vs, e, s, r⟩ ru Q k =>
  ⟨a, n, vs, e, ru, W1.sub.el s, by omega, by omega, Evl.sz_of (by rw [Reps.len r]; exact Nat.le_trans (Nat.mul_le_mul hl (show n.toNat ≤ 1000 by omega)) (by decide)), fun p hp =>
    k _ (W1.add p _) (W1.grow_add hp) ⟨p, _, rfl, upd_same, Reps.mono (exExt (W1.grow_add hp).b) (reps_rep r _)⟩⟩
theorem s_par {D : Ends} {i j : Nat} {P R : V → Wd → Prop} (ha : EvP ε ta σ W P) (hb : EvP ε tb σ W R) (s : ε.I W) (mono : ∀ v W W', Stp ε W W' → P v W → P v W')
    (k : ∀ v u W', Stp ε W W' → P v W' → R u W' → D.nx ((σ.set i (some v)).set j (some u)) W'.H) : tPar i j (tCons ta (tCons tb tNil)) D σ W.H :=
  ha W (.start s) _ fun v W1 g1 p => hb W1 g1 _ fun u W2 g2 r => ⟨v, u, rfl, k v u W2 (g1.trans g2) (mono v W1 W2 g2 p) r⟩
theorem q_par3 {D : Ends} {tz : TS} {i j l : Nat} {P R S : V → Wd → Prop} (ha : EvP ε ta σ W P) (hb : EvP ε tb σ W R) (hc : EvP ε tc σ W S) (s : ε.I W) (m1 : ∀ v W W', Stp ε W W' → P v W → P v W') (m2 : ∀ v W W', Stp ε W W' → R v W → R v W')
    (k : ∀ v u w W', Stp ε W W' → P v W' → R u W' → S w W' → tz D (((σ.set i (some v)).set j (some u)).set l (some w)) W'.H) : tSeq (tPar3 i j l (tCons ta (tCons tb (tCons tc tNil)))) tz D σ W.H :=
  ha W (.start s) _ fun v W1 g1 p => hb W1 g1 _ fun u W2 g2 r => hc W2 (g1.trans g2) _ fun w W3 g3 q => ⟨v, u, w, rfl, k v u w W3 ((g1.trans g2).trans g3) (m1 v W1 W3 (g2.trans g3) p) (m2 u W2 W3 g3 r) q⟩
end
end B
/-! BX: errors that are kept behind their except suite -/
namespace BX
open PySem PySem.Spec PyProof.Rows L2
/-- an error of the class cls that was caught stands at a -/
def ExK (cls : Value) (d : Option Addr) (a : Addr) : HO := .ext fun h => ∃ (oe : Obj) (vs : Array Value), h.get? a = some oe ∧ Zc cls d oe ∧ oe.data = .fields vs
section
variable {X : Cx} {pins : List (Addr × Obj)} {σ : L2.St} {H : Hp} {s : Shared}
/-- an object that isn't tracked is tracked from now on -/
theorem track {a : Addr} {oe : Obj} {vs : Array Value} {cls : Value} {d : Option Addr} (I : L2.Inv X pins σ H s) (ha : s.heap.get? a = some oe) (hz : Zc cls d oe) (hd : oe.data = .fields vs) (n0 : X.s_0.heap.get? a = none) (na : H a = none) (nL : a ≠ X.env.locals) (hp : ∀ p ∈ X.pn ++ pins, p.1 ≠ a) :
    L2.Inv X pins σ (upd H a (ExK cls d a)) s := by
  have ne0 : ∀ b o, X.s_0.heap.get? b = some o → b ≠ a := fun b o e z => by
    rw [z, n0] at e
    cases e
  have neS : ∀ b o, H b = some o → b ≠ a := fun b o e z => by
    rw [z, na] at e
    cases e
  refine ⟨I.ok, I.os, I.bare, ⟨I.base.keep, I.base.slot, fun b o e n hq => ?_, I.base.there, fun b xs e => ?_, fun b o u e => ?_, fun b ps e => ?_⟩, I.loc, I.cell, ?_, fun x c e => ?_, fun p hq => ?_, fun b u e => ?_, I.len⟩
  · rw [upd_ne (ne0 b o e)]
    exact I.base.free b o e n hq
  · have q := I.base.tups b xs e
    rw [upd_ne (neS b _ q)]
    exact q
  · have q := I.base.frzs b o u e
    rw [upd_ne (neS b _ q)]
    exact q
  · obtain ⟨m, q⟩ := I.base.tbls b ps e
    exact ⟨m, by rw [upd_ne (neS b _ q)]; exact q⟩
  · rw [upd_ne (Ne.symm nL)]
    exact I.free
  · have hc : c ≠ a := fun z => by
      obtain ⟨v, o, ho, hv⟩ := I.cell x c e
      rw [z, ha] at ho
      cases ho
      rw [hd] at hv
      cases hv
    rw [upd_ne hc]
    exact I.freeC x c e
  · obtain ⟨e, n, ne, nf, dd⟩ := I.pin p hq
    exact ⟨e, by rw [upd_ne (hp p hq)]; exact n, ne, nf, dd⟩
  · by_cases hb : b = a
    · subst hb
      rw [upd_same] at e
      cases e
      exact ⟨⟨oe, vs, ha, hz, hd⟩, ⟨oe, ha⟩, fun _ _ ⟨o, v, q, r⟩ k => ⟨o, v, k o q, r⟩⟩
    · rw [upd_ne hb] at e
      exact (I.hok b u e).stay (fun c v _ q => q) (fun c q => by rw [upd_ne (neS c _ q)]; exact q) fun c xs q => by rw [upd_ne (neS c _ q)]; exact q
end
/-- what the clause 'except x as n' wishes of an exception of the body, where the error stays behind the suite -/
def wAsK (K : PySem.W.Frag) (c : Value) (i : Nat) (ts : Addr → Value → Option Addr → TS) (Wout : WX) (D : Ends) : WX := fun cls d σ H =>
  ∃ b, PySem.W.exmOne K cls c = some b ∧ (b = true → ∀ a, H a = none → ts a cls d { nx := fun σ' H' => H' a = none → D.nx (σ'.set i none) (upd H' a (ExK cls d a)), rt := D.rt, bk := fun σ' H' => D.bk (σ'.set i none) H', ct := fun σ' H' => D.ct (σ'.set i none) H' } (σ.set i (some (.ref a))) H) ∧
    (b = false → Wout cls d σ H)
section
variable {X : Cx} {x n : Str} {c : Value} {i : Nat} {body suite : List Stmt} {b₀ : Stmt} {np pos pos' : Pos} {tb : WX → TS} {ts : Addr → Value → Option Addr → TS} {Wout : WX}
theorem ps_try_asK (hs : X.stack = X.env :: X.outer) (hf : X.env.frame = some X.env.locals) (hN : X.N.Nodup) (hi : X.N[i]? = some n) (hln : X.env.kindOf n = some .local) (hc : Names X x c) (tk : Takes X Wout)
    (hb : ∀ (W : WX) (pn : List (Addr × Obj)) (xe : Value → Shared → Prop), Takes (X.tr pn xe) W → PassesOwn (model X.prog X.w) X.A X.env xe → PSs (X.tr pn xe) body (tb W))
    (hsu : ∀ (a : Addr) (oe : Obj) (cls : Value) (d : Option Addr) (pn : List (Addr × Obj)), Zc cls d oe → (∃ vs, oe.data = .fields vs) → PSs (X.suite a ((a, oe) :: pn)) (b₀ :: suite) (ts a cls d)) (hex : X.ex = []) :
    PS X (.Try body [.ExceptHandler (some (.Name x np)) (some n) (b₀ :: suite) pos'] [] [] pos) (fun D σ H => tb (wAsK X.K c i ts Wout D) D σ H) := by
  refine ⟨fun pins s σ H D I h => ?_⟩
  have ok := I.ok
  have hfr : X.A.frames = some (X.env :: X.outer) := by rw [ok.frames, hs]
  have hloc : Loc X.env.scope n := .inl hln
  refine wpAny_Try_except ?_
  refine wpAny_mono ((hb (wAsK X.K c i ts Wout D) (X.pn ++ pins) (fun e s₁ => wpAny (model X.prog X.w) X.A (noteFrame e X.env) (fun _ s₂ => wpAny (model X.prog X.w) X.A (setFlight e none) (fun _ s₃ =>
    wpAny (model X.prog X.w) X.A (handleBy e X.env [.ExceptHandler (some (.Name x np)) (some n) (b₀ :: suite) pos']) (SP X pins D) X.xe s₃) X.xe s₂) X.xe s₁) (fun u s' xx => ?_) PassesOwn.looking).run [] s σ H D (I.toTry _) h) (fun f s1 hsp => ?_) (fun e s1 he => he)
  · -- the catch
    obtain ⟨a, B, sI, pins', σ', H', cls, d, rfl, J', nb, up, sky, na, os, ag, b, hb1, hyes, hno⟩ := xx
    have J : L2.Inv X pins σ' H' sI := J'.ofTry ok
    have sky' : Sky B (X.env :: X.outer) a (Zc cls d) X.env.locals s'.heap := by rw [← hs]; exact sky
    show wpAny (model X.prog X.w) X.A (noteFrame (.ref a) X.env) _ _ _
    refine Sky.land Zc.steady hfr hf sky' fun h3 fl3 up3 => ?_
    have J3 : L2.Inv X pins σ' H' { s' with heap := h3 } := J.landed nb fl3.1 (up.trans up3) os ag
    obtain ⟨oe3, vs3, he3, hz3, hd3⟩ := fl3.there
    have notFr : ∀ {h : Heap} {o : Obj} {vs : Array Value}, h.FunFrames B (X.env :: X.outer) → h.get? a = some o → o.data = .fields vs → a ∉ frs (X.env :: X.outer) := fun {h o vs} ff e dd hm => by
      obtain ⟨_, o', e', hnf⟩ := ff.mem hm
      rw [e] at e'; cases e'
      exact hnf _ dd
    have nfr := notFr fl3.2.2.1 he3 hd3
    have nI : sI.heap.get? a = none := by
      cases q : sI.heap.get? a with
      | none => rfl
      | some o =>
        have z := nb a o q (by rw [hs]; exact nfr)
        rw [fl3.2.1] at z
        cases z
    have n0 : X.s_0.heap.get? a = none := by
      cases q : X.s_0.heap.get? a with
      | none => rfl
      | some o =>
        obtain ⟨o', z⟩ := J.base.there a o q (by rw [hex]; exact fun z => nomatch z)
        rw [nI] at z
        cases z
    have npin : ∀ p ∈ X.pn ++ pins, p.1 ≠ a := fun p hp z => by
      have q := (J.pin p hp).1
      rw [z, nI] at q
      cases q
    have nL : a ≠ X.env.locals := fun z => nfr (List.mem_filterMap.mpr ⟨X.env, List.mem_cons_self, by rw [hf, z]⟩)
    have nF : a ∉ X.fs := fun hm => by
      obtain ⟨e, he, q⟩ := List.mem_filterMap.mp hm
      exact nfr (List.mem_filterMap.mpr ⟨e, List.mem_cons_of_mem _ he, q⟩)
    have S3 := J3.suite he3 hd3 na nL nF
    refine wpAny_handleBy_cons (codeAny_handlers_test ?_) (by intro q; cases q)
    have LT : PySem.W.Looks (model X.prog X.w) h3 (typeOf (.ref a)) cls := fun A Q E s k q => wpAny_typeOf_ref (k _ _ he3) (by rw [hz3.1]; exact q)
    have LM := PySem.W.exm_one (M := model X.prog X.w) (J3.kIn) LT hb1
    have test : ∀ {Q : Value → Shared → Prop} {E : Value → Shared → Prop}, Q c { s' with heap := h3 } → wpAny (model X.prog X.w) (X.A.mark (some (.ref a))) (eval (.Name x np) X.env) Q E { s' with heap := h3 } := fun {Q E} q => by
      obtain ⟨hg, hdbg, hm | ⟨hm, hv, hnn⟩⟩ := hc
      · exact ld_glob (X := X.suite a ((a, oe3) :: (X.pn ++ pins))) S3 hg hm q hdbg
      · exact ld_blt (X := X.suite a ((a, oe3) :: (X.pn ++ pins))) S3 hg hm hv q hnn hdbg
    refine test (LM.here ?_)
    cases b with
    | true =>
      refine codeAny_handlers_suite_as ?_
      refine HandSPX.lands_againZ fl3 fun h4 fl4 up4 => ?_
      have J4 : L2.Inv X pins σ' H' { s' with heap := h4 } := J.landed nb fl4.1 ((up.trans up3).trans up4) os ag
      obtain ⟨oe4, vs4, he4, hz4, hd4⟩ := fl4.there
      have S4 := J4.suite he4 hd4 na nL nF
      refine store_ok (X := X.suite a ((a, oe4) :: (X.pn ++ pins))) (v := .ref a) S4 hN hi hloc rfl (fun s5 S5 => ?_) (.inr hln)
      refine wpAny_mono ((hsu a oe4 cls d (X.pn ++ pins) hz4 ⟨_, hd4⟩).run [] s5 _ H' _ S5 (hyes rfl a na)) (fun f s6 hsp => ?_) (fun _ _ z => False.elim z)
      have end_ : ∀ {σ6 : L2.St} {H6 : Hp} {Q : Shared → Prop}, L2.Inv X pins σ6 H6 s6 → (∀ s7, L2.Inv X pins (σ6.set i none) H6 s7 → Q s7) →
          wpAny (model X.prog X.w) X.A (do bindName X.env n .none; unbindBehindTheSuite X.env n pos') (fun _ s7 => Q s7) X.xe s6 := fun {σ6 H6 Q} S6 hq => gone_ok S6 hN hi hln hq
      cases f with
      | next =>
        obtain ⟨σ6, H6, S6, q6⟩ := hsp
        obtain ⟨p1, p2, _⟩ := S6.pin (a, oe4) (List.mem_append_left _ List.mem_cons_self)
        exact end_ (track (S6.unsuite ok) p1 hz4 hd4 n0 p2 nL npin) fun s7 J7 => ⟨_, _, J7, q6 p2⟩
      | brk =>
        obtain ⟨σ6, H6, S6, q6⟩ := hsp
        exact end_ (S6.unsuite ok) fun s7 J7 => ⟨_, _, J7, q6⟩
      | cont =>
        obtain ⟨σ6, H6, S6, q6⟩ := hsp
        exact end_ (S6.unsuite ok) fun s7 J7 => ⟨_, _, J7, q6⟩
      | ret u =>
        obtain ⟨v6, σ6, H6, S6, r6, q6⟩ := hsp
        exact end_ (S6.unsuite ok) fun s7 J7 => ⟨_, _, _, J7, r6, q6⟩
    | false =>
      show wpAny _ X.A (handleBy (.ref a) X.env []) _ _ _
      refine wpAny_handleBy_nil ?_
      obtain ⟨k1, k2, k3, oe, vs, T, oT, ts', he, hz, hd, h1, hr⟩ := id fl3
      unfold PySem.passOn
      refine wpAny_bind (wpAny_field he hd h1 ?_)
      rw [if_neg (show ¬ ((Value.ref T == Value.none) = true) from by simp)]
      have fin : wpAny (model X.prog X.w) X.A (setFlight (.ref a) X.env.frame) (fun _ s4 => wpAny (model X.prog X.w) X.A (throw (.ref a) : Sem Flow) (SP X pins D) X.xe s4) X.xe { s' with heap := h3 } := by
        rw [hf]
        refine HandSPX.setFlight_upZ fl3 fun h4 hh4 up4 => wpAny_throw (tk _ _ ?_)
        exact ⟨a, B, sI, pins, σ', H', cls, d, rfl, J, nb, (up.trans up3).trans up4, .inr (.inr (by rw [hs]; exact hh4)), na, os, ag, hno rfl⟩
      first
        | exact wpAny_bind (wpAny_pure (wpAny_bind fin))
        | exact wpAny_bind fin
  · cases f with
    | next =>
      obtain ⟨σ', H', J', q⟩ := hsp
      exact wpAny_execs_nil ⟨σ', H', J'.ofTry ok, q⟩
    | brk =>
      obtain ⟨σ', H', J', q⟩ := hsp
      exact ⟨σ', H', J'.ofTry ok, q⟩
    | cont =>
      obtain ⟨σ', H', J', q⟩ := hsp
      exact ⟨σ', H', J'.ofTry ok, q⟩
    | ret u =>
      obtain ⟨v, σ', H', J', r, q⟩ := hsp
      exact ⟨v, σ', H', J'.ofTry ok, r, q⟩
end
/-- isinstance(e, c), e an error that was kept -/
def rIsK (K : PySem.W.Frag) : List V → Hp → VK → Prop := fun xs H Q => ∃ (a D : Addr) (c : V) (cv : Value) (b : Bool), xs = [.ref a, c] ∧ H a = some (ExK (.ref D) none a) ∧ ExcC K D ∧ (∀ u, RelV c u → u = cv) ∧ PySem.W.kitOne K (.ref D) cv = some b ∧ Q (.bl b) H
theorem call_isK {X : Cx} : CallR X (.builtin "isinstance") (rIsK X.K) := by
  intro pins s σ H xs us Q I r h
  obtain ⟨a, D, c, cv, b, rfl, ha, C, hcv, e, q⟩ := h
  cases r with
  | cons rx rr =>
    cases rr with
    | cons rt rr =>
      cases rr
      cases rx
      have ec := hcv _ rt
      subst ec
      obtain ⟨oe, vs, hget, hz, hv⟩ := (I.hok a _ ha).1
      have J : PySem.W.InstAt s.heap a oe D none := by
        obtain ⟨oc, od, oda, osl⟩ := oe
        obtain ⟨h1, h2⟩ := hz
        dsimp only at h1 h2 hv
        subst h1 h2 hv
        exact ⟨hget, rfl, rfl, trivial⟩
      exact PySem.W.kia_one (PySem.W.handS_kitx_exc C.hg C.hk C.hs C.hd C.ha C.hn C.ht C.hm) I.kIn J e (fun z => nomatch z) fun tk => ⟨.bl b, H, I.kept (t' := tk) fun _ _ z => z, rfl, q⟩
/-- an error's class, over ValueError, without an __init__ of its own -/
structure ErrC (K : PySem.W.Frag) (C : Addr) : Prop where
  k : PySem.W.keepIn K (.ref C) = true
  q : PySem.W.excIn K C [.type "ValueError", .type "Exception", .type "BaseException", .type "object"] "ValueError.__new__" = true
  s : PySem.W.subIn K (.ref C) (.type "BaseException") = some true
  t : PySem.W.typeIn K (.ref C) = some (.type "type")
  e : PySem.W.exmOne K (.ref C) (.ref C) = some true
  c : ExcC K C
  v : PySem.W.kitOne K (.ref C) (.type "ValueError") = some true
/-- an error of the class at S is what «except S» names -/
theorem exm_self {K : PySem.W.Frag} {S : Addr} (h1 : PySem.W.subIn K (.ref S) (.type "BaseException") = some true) (h2 : PySem.W.isClsIn K S = true) (h3 : PySem.W.typeIn K (.ref S) = some (.type "type")) (h4 : PySem.W.subIn K (.ref S) (.ref S) = some true) :
    PySem.W.exmOne K (.ref S) (.ref S) = some true := by
  have e1 : (PySem.W.subIn K (.ref S) (.type "BaseException") == some true) = true := by rw [h1] <;> rfl
  have e2 : ((PySem.W.clsIn K S).isSome && PySem.W.typeIn K (.ref S) == some (.type "type")) = true := by
    have h2' : (PySem.W.clsIn K S).isSome = true := h2
    rw [h2', h3] <;> rfl
  show (if (PySem.W.subIn K (.ref S) (.type "BaseException") == some true) = true then (if ((PySem.W.clsIn K S).isSome && PySem.W.typeIn K (.ref S) == some (.type "type")) = true then PySem.W.subIn K (.ref S) (.ref S) else none) else none) = some true
  rw [if_pos e1, if_pos e2]
  exact h4
theorem kit_ve {K : PySem.W.Frag} {C : Addr} {T : String} (hm : PySem.W.kitMeta T = true) (h : PySem.W.subIn K (.ref C) (.type T) = some true) : PySem.W.kitOne K (.ref C) (.type T) = some true := by
  unfold PySem.W.kitOne
  rw [if_neg (show ¬ ((Value.ref C == Value.type T) = true) from fun z => by have := eq_of_beq z; cases this)]
  show (if PySem.W.kitMeta T = true then _ else _) = _
  rw [if_pos hm]
  exact h
/-- raise C('..') out of a def -/
abbrev tRaiseO (C : Addr) (E : XK) : TS := fun _ _ H => E (.ref C) none H
/-- try: body, except C as n (slot i): suite -/
abbrev tTryK (K : PySem.W.Frag) (C : Addr) (i : Nat) (tb : WX → TS) (ts : Addr → Value → Option Addr → TS) : TS := fun D σ H => tb (wAsK K (.ref C) i ts (fun _ _ _ _ => False) D) D σ H
theorem ps_raiseO {X : Cx} {E : XK} {C : Addr} {x m : Str} {j : Nat} {p p2 pos pos2 : Pos} {E₁ : Value → Shared → Prop} (c : ErrC X.K C) (g : X.mg x = some (.ref C)) (hc : X.calm = true) (hs : X.stack = X.env :: X.outer) (hf : X.env.frame = some X.env.locals) (hex : X.ex = [])
    (hx : X.xe = fun e s' => wpAny (model X.prog X.w) X.A (leaving X.env e) (fun _ s'' => L2.CX X.prog X.w X.outer X.H_0 X.s_0 E e s'') E₁ s') (hg : Gl X x) (hdb : (x == ("__debug__" : Str)) = false := by decide) :
    PS X (.Raise (some (.Call (.Name x p) [.Constant (.str m) j p2] [] pos)) none pos2) (tRaiseO C E) :=
  ps_raise hc (takes_of hs hf hex hx) (pmk_own PySem.F.excBase_ValueError c.q g c.k (raises_own c.s c.t) hg hdb)
end BX
/-! BE: errors with fields of their own: made, caught, kept, asked -/
namespace BE
open PySem PySem.Spec PySem.Calls PyProof.Rows
section
open PySem.W
variable {prog : Program} {w : World} {A : Around} {E : Value → Shared → Prop} {s : Shared} {K : Frag} {x D : Addr} {ox : Obj} {od : Option Obj}
theorem find_dataO {C : Addr} {name : Str} {a g : Value} (hc : (clsIn K C).isSome = true) (ha : findIn K (.ref C) name = some (some a)) (hg : specialIn K a "__get__" = some (some g)) (ht : takesIn K a = some true) : findObj K C od name = some (.bind g a) := by
  cases od with
  | none => exact findObj_dataN hc ha hg ht
  | some o => exact findObj_data hc ha hg ht
theorem classE_at {Q : Option Value → Shared → Prop} (C : L2.ExcC K D) (X : K.In s.heap) (I : InstAt s.heap x ox D od) (h : Q (some (.ref D)) { s with toks := s.toks + 1 }) : wpAny (model prog w) A (getAttr? (.ref x) "__class__") Q E s := by
  have hf : findObj K D od "__class__" = some (.bind (.builtin "getset_descriptor.__get__") (.builtin "object.__class__")) := find_dataO (by obtain ⟨cd, hc, _⟩ := any_some C.hd; rw [hc]; rfl) C.ha C.hn C.ht
  obtain ⟨hp, g, d, t, os⟩ := s
  have k0 := I.type (M := model prog w)
  have k1 := looks_findIn (M := model prog w) X C.hg
  have k2 := looks_findIn (M := model prog w) X C.hk
  have k3 := looks_find (M := model prog w) X I hf
  have sb : Looks (model prog w) hp (isInstance (.ref x) (.type "BaseException")) true := k0.andThen (looks_subIn X C.hs)
  have n0 : (false && onTheHeap (Value.builtin "BaseException.__getattribute__")) = false := rfl
  have n2 : (Value.builtin "BaseException.__getattribute__" == Value.builtin "object.__getattribute__") = false := by decide +kernel
  have n1 : (onTheHeap (Value.ref D) && Value.builtin "BaseException.__getattribute__" == Value.builtin "object.__getattribute__") = false := by rw [n2]; rfl
  unfold getAttr? getAttrBy? getAttrBy
  refine wpAny_bind (wpAny_mkText (wpAny_bind (wpAny_attempt (wpAny_holding (wpAny_bind (k0.at (wpAny_bind (k1.at ?_))))))))
  show wpAny _ _ (if (onTheHeap (Value.ref D) && Value.builtin "BaseException.__getattribute__" == Value.builtin "object.__getattribute__") = true then _ else _) _ _ _
  rw [n1, if_neg Bool.false_ne_true]
  unfold getAttrByItsOwn hookBefore
  refine wpAny_bind ?_
  rw [if_pos (show onTheHeap (Value.ref D) = true from rfl)]
  refine k2.at ?_
  refine wpAny_bind (wpAny_attempt (wpAny_holding ?_))
  unfold callGetattribute
  rw [n0, if_neg Bool.false_ne_true]
  unfold boundAndCalled
  rw [PySem.F.excAttr_ValueError.ga.bind (.ref x)]
  refine wpAny_bind (wpAny_pure ?_)
  show wpAny _ _ (call (.builtin "BaseException.__getattribute__") [.ref x, .str "__class__" t]) _ _ _
  refine wpAny_call (codeAny_call_builtin PySem.F.excAttr_ValueError.ga.plain PySem.F.entry_bexc_ga ?_)
  refine @check_slot (model prog w) _ _ ⟨hp, g, d, t + 1, os⟩ "BaseException.__getattribute__" "BaseException" "__getattribute__" (.ref x) [.str "__class__" t] [] _ (by decide +kernel) (by decide +kernel) sb (PySem.F.args_bexc_ga (.ref x) (.str "__class__" t)) ?_
  unfold Builtin.«object.__getattribute__»
  refine wpAny_bind (wpAny_of_eq (a := ((Value.ref x : Value), [Value.str "__class__" t])) (by first | rfl | (simp only [slotArgs]; rfl)) ?_)
  refine wpAny_bind (wpAny_pure (wpAny_bind (k0.at (wpAny_bind (k3.at ?_)))))
  show wpAny _ _ (holding [Value.builtin "object.__class__"] (call (.builtin "getset_descriptor.__get__") [.builtin "object.__class__", .ref x, .ref D]) >>= ret) _ _ _
  refine wpAny_bind (wpAny_holding (wpAny_call (class_get (s := ⟨hp, g, d, t + 1, os⟩) (ox := ox) (od := od) X I C.hm ?_)))
  refine wpAny_pure ?_
  show wpAny _ _ (handedOut (.ref D)) _ _ _
  rw [handedOut_of (v := .ref D) rfl]
  first
    | exact wpAny_pure (wpAny_pure h)
    | exact wpAny_pure h
    | exact wpAny_pure (wpAny_bind (wpAny_pure (wpAny_pure h)))
theorem kit_at (C : L2.ExcC K D) : KitX K (.ref x) (.ref D) (fun h => InstAt h x ox D od) where
  ty := fun _ _ _ I => I.type
  it := fun _ _ X _ => by
    obtain ⟨cd, hc, _⟩ := any_some C.hd
    unfold clsIn at hc
    split at hc
    · rename_i e
      exact fun A' Q' E' s' k q => wpAny_bind (m := loadHead D) (wpAny_loadPart (k _ _ (X _ _ e)) (wpAny_pure q))
    · cases hc
  ne := (handS_kitx_exc (x := x) (ox := ox) C.hg C.hk C.hs C.hd C.ha C.hn C.ht C.hm).ne
  ca := fun X I k => classE_at C X I k
end
open L2
/-- isinstance(e, c), e an error that was kept, with fields or without -/
def rIsF (K : PySem.W.Frag) : List V → Hp → VK → Prop := fun xs H Q => ∃ (a D : Addr) (d : Option Addr) (c : V) (cv : Value) (b : Bool), xs = [.ref a, c] ∧ H a = some (BX.ExK (.ref D) d a) ∧ (∀ dd, d = some dd → ∃ fs, H dd = some (.xd fs)) ∧ ExcC K D ∧ (∀ u, RelV c u → u = cv) ∧ PySem.W.kitOne K (.ref D) cv = some b ∧ Q (.bl b) H
theorem call_isF {X : Cx} : CallR X (.builtin "isinstance") (rIsF X.K) := by
  intro pins s σ H xs us Q I r h
  obtain ⟨a, D, d, c, cv, b, rfl, ha, hd, C, hcv, e, q⟩ := h
  cases r with
  | cons rx rr =>
    cases rr with
    | cons rt rr =>
      cases rr
      cases rx
      have ec := hcv _ rt
      subst ec
      obtain ⟨oe, vs, hget, hz, hv⟩ := (I.hok a _ ha).1
      obtain ⟨od, J⟩ : ∃ od, PySem.W.InstAt s.heap a oe D od := by
        obtain ⟨oc, od, oda, osl⟩ := oe
        obtain ⟨h1, h2⟩ := hz
        dsimp only at h1 h2 hv
        subst h1 h2 hv
        cases od with
        | none => exact ⟨none, hget, rfl, rfl, trivial⟩
        | some dd =>
          obtain ⟨fs, hfs⟩ := hd dd rfl
          have hx : ObjOk X.prog X.w H s.heap dd (.xd fs) := I.hok dd _ hfs
          obtain ⟨mA, hns, _⟩ := hx
          obtain ⟨o2, _, _, ho, _⟩ := hns
          exact ⟨some o2, hget, rfl, rfl, ho⟩
      exact PySem.W.kia_one (kit_at C) I.kIn J e (fun z => nomatch z) fun tk => ⟨.bl b, H, I.kept (t' := tk) fun _ _ z => z, rfl, q⟩
/-- what the written part says of a class with its own __init__ -/
def oexIn (K : PySem.W.Frag) (C : Addr) : Bool := match K.lookup C with
  | some ⟨.type "type", _, .cls cd, sl⟩ => (match cd.mro, sl.toList with
    | .ref C' :: bm, [_, _, _, _, some (.builtin n), _] => C' == C && n == "ValueError.__new__" && !cd.hasDel && cd.hasDict && PySem.HandSPX.refsVE bm
    | _, _ => false)
  | _ => false
theorem oex_mk {K : PySem.W.Frag} {C : Addr} (q : oexIn K C = true) (sa : PySem.W.findIn K (.ref C) "__setattr__" = some (some (.builtin "object.__setattr__"))) (ex : PySem.W.subIn K (.ref C) (.type "BaseException") = some true) (ty : PySem.W.typeIn K (.ref C) = some (.type "type")) (kp : PySem.W.keepIn K (.ref C) = true) : OexC K C := by
  refine ⟨?_, sa, ex, ty, kp⟩
  unfold oexIn at q
  split at q
  · rename_i dd cd sl ho
    split at q
    · rename_i C' bm k0 k1 k2 k3 n k5 hm hs
      simp only [Bool.and_eq_true, beq_iff_eq, Bool.not_eq_true'] at q
      obtain ⟨⟨⟨⟨rfl, rfl⟩, hdel⟩, hdct⟩, ht⟩ := q
      obtain ⟨nm, bs, mro, ns, qn, hd, sn, sub, ab, col, del⟩ := cd
      dsimp only at hm hdel hdct
      subst hm hdel hdct
      obtain ⟨l⟩ := sl
      simp only at hs
      subst hs
      exact ⟨nm, qn, ns, bs, bm, sn, sub, ab, col, dd, k0, k1, k2, k3, k5, ho, ht⟩
    · cases q
  · cases q
/-- raise C(e, ..) out of a def, C's own __init__ keeping sp -/
abbrev tRaiseI (C : Addr) (sp : Sp) (ta : TA) (E : XK) : TS := fun _ σ H => tMkO C sp [] ta σ H E
theorem ps_raiseI {X : Cx} {CX : CXT} {E : XK} {C fI : Addr} {k : Nat} {fd : FuncData} {ps : List Str} {sp : Sp} {x : Str} {e : Expr} {es : List Expr} {ta : TA} {p pos pos2 : Pos} {E₁ : Value → Shared → Prop} (T : OexC X.K C) (iC : PySem.W.findIn X.K (.ref C) "__init__" = some (some (.ref fI))) (tI : PySem.W.typeIn X.K (.ref fI) = some (.type "function"))
    (F1 : FnOk X.prog X.w X.K X.mg X.base CX k fI fd ps sp) (hp : Passes CX X (fun _ _ _ => False)) (hr : Room (k + 1) X.A) (hb : Binds X.K fd ps []) (hg : Gl X x) (hm : X.mg x = some (.ref C)) (ha : PA X (e :: es) ta) (hc : X.calm = true) (hs : X.stack = X.env :: X.outer) (hf : X.env.frame = some X.env.locals) (hex : X.ex = [])
    (hx : X.xe = fun e s' => wpAny (model X.prog X.w) X.A (leaving X.env e) (fun _ s'' => L2.CX X.prog X.w X.outer X.H_0 X.s_0 E e s'') E₁ s') (hdb : (x == ("__debug__" : Str)) = false := by decide)
    (he : starEach (e :: es) X.env = (false, eval e X.env) :: starEach es X.env := by rfl) (hpl : (backTo pos (starEach es X.env)).any (·.1) = false := by rfl) :
    PS X (.Raise (some (.Call (.Name x p) (e :: es) [] pos)) none pos2) (tRaiseI C sp ta E) :=
  ps_raise hc (takes_of hs hf hex hx) (pmk_oex (dvs := []) T iC tI F1 hr hb .nil hp hg hm ha hdb he hpl)
end BE
namespace B
open PySem L2
/-- s.upper() -/
abbrev rUpper : V → List V → Hp → VK → Prop := fun x xs H Q => ∃ a, x = .str a ∧ xs = [] ∧ a.length ≤ 5592405 ∧ Q (.str (Txt.upper a)) H
end B
/-! BV: errors made and held as values: asked of what class, their fields read -/
namespace BV
open PySem PySem.Spec PySem.Calls PyProof.Rows
open L2
/-- an error of the class at D stands at a -/
def ErA (H : Hp) (a D : Addr) (fs : List (Str × V)) : Prop := (fs = [] ∧ H a = some (ExO (.ref D) a)) ∨ ∃ dx, H a = some (exo a D (some dx)) ∧ H dx = some (exd dx fs)
/-- C(e), a class without own __init__ -/
def tErrO (C : Addr) (ta : TE) : TE := fun σ H Q => ta σ H fun _ H1 => ∀ a, H1 a = none → Q (.ref a) (upd H1 a (ExO (.ref C) a))
theorem pe_errO {X : Cx} {C : Addr} {x : Str} {e : Expr} {ta : TE} {p pos : Pos} (c : BX.ErrC X.K C) (g : X.mg x = some (.ref C)) (hg : Gl X x) (he : PE X e ta)
    (hs : starEach [e] X.env = (false, eval e X.env) :: starEach [] X.env := by rfl) (hdb : (x == ("__debug__" : Str)) = false := by decide) : PE X (.Call (.Name x p) [e] [] pos) (tErrO C ta) :=
  pe_exc1 PySem.F.excBase_ValueError c.q g c.k hg he hs hdb
/-- C(e, ..), C's own __init__ keeping sp -/
def tErrI (C : Addr) (sp : Sp) (dvs : List V) (ta : TA) : TE := fun σ H Q => ta σ H fun vs H1 => vs.length ≤ 1000 ∧ ∀ a, H1 a = none → sp (.ref a :: (vs ++ dvs)) (upd H1 a (exo a C none))
  (fun v H2 => v = .non ∧ Q (.ref a) H2) (fun _ _ _ => False)
theorem pe_errI {X : Cx} {CX : CXT} {x : Str} {C fI : Addr} {k : Nat} {fd : FuncData} {ps : List Str} {sp : Sp} {e : Expr} {es : List Expr} {ta : TA} {p pos : Pos} {ds : List Value} {dvs : List V} (T : OexC X.K C) (iC : PySem.W.findIn X.K (.ref C) "__init__" = some (some (.ref fI))) (tI : PySem.W.typeIn X.K (.ref fI) = some (.type "function"))
    (F1 : FnOk X.prog X.w X.K X.mg X.base CX k fI fd ps sp) (hx : Passes CX X (fun _ _ _ => False)) (hr : Room (k + 1) X.A) (hb : Binds X.K fd ps ds) (hd : Vals dvs ds) (hg : Gl X x) (hm : X.mg x = some (.ref C)) (ha : PA X (e :: es) ta)
    (hdb : (x == ("__debug__" : Str)) = false := by decide) (he : starEach (e :: es) X.env = (false, eval e X.env) :: starEach es X.env := by rfl) (hpl : (backTo pos (starEach es X.env)).any (·.1) = false := by rfl) :
    PE X (.Call (.Name x p) (e :: es) [] pos) (tErrI C sp dvs ta) := by
  refine ⟨fun pins s σ H Q I h => ?_⟩
  obtain ⟨nm, q, N, bs, bm, sn, sub, ab, col, dd, k0, k1, k2, k3, k5, hC, hbm⟩ := T.cls
  refine wpAny_Call_Name_kw (ld_glob I hg hm ?_ hdb)
  refine PySem.W.callWith_K (h₀ := X.base) I.ok.mod.kin T.kC (thn (ha.run pos pins s σ H _ I h) fun us s1 ⟨vs, H1, I1, r1, hz, q1⟩ => ⟨I1.kIn, ?_⟩) he hpl
  show wpAny _ _ (call (.ref C) us) _ _ _
  obtain ⟨hp, g, dr, tk, os⟩ := s1
  have hsz : hp.objs.size ≤ hp.objs.size + 1 := Nat.le_succ _
  have hn : H1 (hp.objs.size + 1) = none := I1.hok.fresh hsz
  have hq := q1 (hp.objs.size + 1) hn
  have kk : ∀ b o, hp.get? b = some o → ((hp.push (PySem.W.kdv_tup us)).push (PySem.HandSPX.excO C hp.objs.size)).get? b = some o := fun b o e => Heap.get?_push_of_some _ (Heap.get?_push_of_some _ e)
  have hget : ((hp.push (PySem.W.kdv_tup us)).push (PySem.HandSPX.excO C hp.objs.size)).get? (hp.objs.size + 1) = some (PySem.HandSPX.excO C hp.objs.size) := by heap_get
  have I2 : Inv X pins σ (upd H1 (hp.objs.size + 1) (exo (hp.objs.size + 1) C none)) ⟨(hp.push (PySem.W.kdv_tup us)).push (PySem.HandSPX.excO C hp.objs.size), g, dr, tk, os⟩ :=
    I1.laid (t' := tk) (a := hp.objs.size + 1) (o := exo (hp.objs.size + 1) C none) (h' := (hp.push (PySem.W.kdv_tup us)).push (PySem.HandSPX.excO C hp.objs.size)) kk hsz (exo_ok hget)
  have r2 : Vals (V.ref (hp.objs.size + 1) :: (vs ++ dvs)) (Value.ref (hp.objs.size + 1) :: (us ++ ds)) := .cons rfl (r1.append hd)
  have hl : (Value.ref (hp.objs.size + 1) :: us ++ ds).length = ps.length := by
    have e := r2.length
    rw [F1.len _ _ _ _ hq] at e
    exact e.symm
  have hus : us.length ≤ sizeLine := by
    rw [← Paired.length r1, sizeLine_eq]
    omega
  refine wpAny_call (PySem.HandSPX.call_own F.excBase_ValueError (fun Y => PySem.HandSPX.refsVE_contains Y bm hbm) (I1.kIn _ _ hC) (PySem.W.looks_findIn I1.kIn iC) (fun self => PySem.W.bind_fn I1.kIn self tI) hus
    (codeAny_mono (F1.run _ X.stack _ _ ⟨Value.ref (hp.objs.size + 1) :: us, []⟩ (Value.ref (hp.objs.size + 1) :: (us ++ ds)) _ _ (fun _ _ _ => False) (hr.make C us []) (I2.env0.make C us []) (hb _ (Value.ref (hp.objs.size + 1) :: us) I2.kIn hl) r2 hq) fun r s' hq' => ?_))
  cases r with
  | error er => exact hx pins σ _ _ er s' I2 hq'
  | ok fl =>
    cases fl with
    | ret u =>
      obtain ⟨v, H2, os2, bare2, un2, hok2, rv, ev, q2⟩ := hq'
      subst ev
      obtain ⟨h2, g2, d2, t2, os'⟩ := s'
      exact ⟨rv, .ref (hp.objs.size + 1), H2, I2.call' (ch := []) os2 un2 hok2 bare2 (fun b z => absurd z (by simp)), rfl, q2⟩
    | next => exact False.elim hq'
    | brk => exact False.elim hq'
    | cont => exact False.elim hq'
/-- isinstance(e, c), e an error held as a value -/
def rIsV (K : PySem.W.Frag) : List V → Hp → VK → Prop := fun xs H Q => ∃ (a D : Addr) (fs : List (Str × V)) (c : V) (cv : Value) (b : Bool), xs = [.ref a, c] ∧ ErA H a D fs ∧ ExcC K D ∧ (∀ u, RelV c u → u = cv) ∧ PySem.W.kitOne K (.ref D) cv = some b ∧ Q (.bl b) H
theorem call_isV {X : Cx} : CallR X (.builtin "isinstance") (rIsV X.K) := by
  intro pins s σ H xs us Q I r h
  obtain ⟨a, D, fs, c, cv, b, rfl, ha, C, hcv, e, q⟩ := h
  cases r with
  | cons rx rr =>
    cases rr with
    | cons rt rr =>
      cases rr
      cases rx
      have ec := hcv _ rt
      subst ec
      obtain ⟨oe, od, J⟩ : ∃ oe od, PySem.W.InstAt s.heap a oe D od := by
        rcases ha with ⟨_, ha⟩ | ⟨dx, ha, hd⟩
        · obtain ⟨oe, vs, hget, hz, hv, _⟩ := (I.hok a _ ha).1
          obtain ⟨oc, od, oda, osl⟩ := oe
          obtain ⟨h1, h2⟩ := hz
          dsimp only at h1 h2 hv
          subst h1 h2 hv
          exact ⟨_, none, hget, rfl, rfl, trivial⟩
        · obtain ⟨t1, hget⟩ := exo_at I.hok ha
          obtain ⟨mA, hns, _⟩ := exd_at I.hok hd
          obtain ⟨o2, _, _, ho, _⟩ := hns
          exact ⟨_, some o2, hget, rfl, rfl, ho⟩
      exact PySem.W.kia_one (BE.kit_at C) I.kIn J e (fun z => nomatch z) fun tk => ⟨.bl b, H, I.kept (t' := tk) fun _ _ z => z, rfl, q⟩
/-- e.f, e an error held as a value -/
def tXv (K : PySem.W.Frag) (f : Str) (te : TE) : TE := fun σ H Q => te σ H fun x H1 => ∃ (a C dx : Addr) (fs : List (Str × V)) (v : V), x = .ref a ∧ H1 a = some (exo a C (some dx)) ∧ H1 dx = some (exd dx fs) ∧ XfC K C ∧ PySem.W.findIn K (.ref C) f = some none ∧ fs.lookup f = some v ∧ Q v H1
theorem pe_xv {X : Cx} {e : Expr} {te : TE} {pos : Pos} {n : Str} (he : PE X e te) (hb : attributeBase e n X.env (eval e X.env) = eval e X.env := by rfl) : PE X (.Attribute e n pos) (tXv X.K n te) := by
  refine ⟨fun pins s σ H Q I h => ?_⟩
  refine attr_of hb (thn (he.run pins s σ H _ I h) fun u s1 hh => ?_)
  obtain ⟨x, H1, I1, rx, a, C, dd, fs, v, ex, ha, ea, T, hno, l, q⟩ := hh
  subst ex
  obtain rfl : u = Value.ref a := rx
  obtain ⟨t1, hget⟩ := exo_at I1.hok ha
  obtain ⟨mA, hns, hr⟩ := exd_at I1.hok ea
  obtain ⟨od, ho, hl⟩ := lookIn_ns hns
  obtain ⟨u, hu, ru⟩ := RelO.some_of (v := v) (o := mA n) (by rw [← l]; exact hr n)
  have J : PySem.W.InstAt s1.heap a _ C (some od) := ⟨hget, rfl, rfl, ho⟩
  exact HandSPX.exc_get I1.kIn J T.ga T.gg T.exC (PySem.W.findObj_own T.hdC hno rfl (by rw [hl, hu])) (handed_of ru) ⟨v, H1, I1.tok _, ru, q⟩
end BV
namespace B
open PySem L2
/-- i // j, the divisor of any size up to 10 ** 30 -/
abbrev oDivW : R2 := rI CDivW fun i j => .int (i / j)
/-- a text so many times -/
def rMulS : R2 := fun x y H Q => ∃ i n, x = .str i ∧ y = .int n ∧ MulOk i n ∧ Q (.str (Txt.mul i n)) H
theorem op_mulS {X : Cx} : OpR X (binaryOp .Mult) rMulS := by
  intro pins s σ H x y v u Q I rx ry h
  obtain ⟨i, n, rfl, rfl, hz, q⟩ := h
  obtain ⟨t, rfl⟩ := rx
  obtain ⟨t', rfl⟩ := ry
  exact SB.mul hz fun t' tk => ⟨.str (Txt.mul i n), H, I.tok _, ⟨_, rfl⟩, q⟩
end B
/-! B: shifts; odd things of any kind; slices of a tuple of four -/
namespace B
open PySem L2
open PySem.W (Tup T3 T4 Datum DatumOrd)
open Evl (Ex)
abbrev oShl : R2 := rI CPow fun i j => .int (i * 2 ^ j.toNat)
abbrev oShr : R2 := rI (fun _ j => 0 ≤ j) fun i j => .int (i / 2 ^ j.toNat)
abbrev oAnd : R2 := rI0 fun i j => .int (Builtin.bitAnd i j)
/-- a thing of any kind -/
inductive Odd where
  | int (n : Int) | bl (b : Bool) | non | str (s : Str) | tup (ns : List Int) | lst (ns : List Int) | dct
def oRep (K : Fg) (H : Hp) (v : V) : Odd → Prop
  | .int n => rep K H v n
  | .bl b => rep K H v b
  | .non => rep K H v ()
  | .str s => rep K H v s
  | .tup n => rep K H v (Tup.mk n)
  | .lst n => rep K H v n
  | .dct => rep K H v (⟨[]⟩ : Dict Int Int)
theorem oRep_mono {K : Fg} {H H' : Hp} {v : V} (e : Ext H H') : ∀ {o : Odd}, oRep K H v o → oRep K H' v o
  | .int n, h => Py.mono (α := Int) e h
  | .bl b, h => Py.mono (α := Bool) e h
  | .non, h => Py.mono (α := Unit) e h
  | .str s, h => Py.mono (α := Str) e h
  | .tup n, h => Py.mono (α := Tup Int) e h
  | .lst n, h => Py.mono (α := List Int) e h
  | .dct, h => Py.mono (α := Dict Int Int) e h
instance : Py Odd := ⟨oRep, fun e h => oRep_mono e h⟩
def Odd.cls : Odd → String
  | .int _ => "int" | .bl _ => "bool" | .non => "NoneType" | .str _ => "str" | .tup _ => "tuple" | .lst _ => "list" | .dct => "dict"
theorem ty_dct {K : Fg} {κ α : Type} [PyKey κ] [Py α] {d : Dict κ α} (W1 : Wd) (v : V) (h : rep K W1.B v d) : TyX K W1.H v (.type "dict") := by
  obtain ⟨a, ks, rfl, h1, _⟩ := h
  rcases W1.sub.rd h1 with z | ⟨o, z⟩
  · exact .base (.dK z)
  · exact .fDict z
theorem ty_odd {K : Fg} (W1 : Wd) (v : V) : ∀ (o : Odd), rep K W1.B v o → TyX K W1.H v (.type o.cls)
  | .int n, h => ty_int W1 v h
  | .bl b, h => ty_bl W1 v h
  | .non, h => ty_non W1 v h
  | .str s, h => ty_str W1 v h
  | .tup n, h => ty_tup W1 v h
  | .lst n, h => ty_lst W1 v h
  | .dct, h => ty_dct W1 v h
def Odd.isI : Odd → Bool
  | .int _ => true | .bl _ => true | _ => false
def Odd.isB : Odd → Bool
  | .bl _ => true | _ => false
theorem odd_kitI : ∀ o : Odd, kitB o.cls "int" = some o.isI
  | .int _ => (by decide +kernel : kitB "int" "int" = some true)
  | .bl _ => (by decide +kernel : kitB "bool" "int" = some true)
  | .non => (by decide +kernel : kitB "NoneType" "int" = some false)
  | .str _ => (by decide +kernel : kitB "str" "int" = some false)
  | .tup _ => (by decide +kernel : kitB "tuple" "int" = some false)
  | .lst _ => (by decide +kernel : kitB "list" "int" = some false)
  | .dct => (by decide +kernel : kitB "dict" "int" = some false)
theorem odd_kitB : ∀ o : Odd, kitB o.cls "bool" = some o.isB
  | .int _ => (by decide +kernel : kitB "int" "bool" = some false)
  | .bl _ => (by decide +kernel : kitB "bool" "bool" = some true)
  | .non => (by decide +kernel : kitB "NoneType" "bool" = some false)
  | .str _ => (by decide +kernel : kitB "str" "bool" = some false)
  | .tup _ => (by decide +kernel : kitB "tuple" "bool" = some false)
  | .lst _ => (by decide +kernel : kitB "list" "bool" = some false)
  | .dct => (by decide +kernel : kitB "dict" "bool" = some false)
section
variable {α β γ δ : Type} [Py α] [Py β] [Py γ] [Py δ] {K : Fg} {W W' : Wd} {σ : SS} {ε : Ef} {te ta tb tc td : TE}
theorem ev_oI {n : Int} (h : EvR ε K te σ W n) : EvR ε K te σ W (Odd.int n) := h
theorem ev_oB {n : Bool} (h : EvR ε K te σ W n) : EvR ε K te σ W (Odd.bl n) := h
theorem ev_oN (h : EvR ε K te σ W ()) : EvR ε K te σ W Odd.non := h
theorem ev_oS {n : Str} (h : EvR ε K te σ W n) : EvR ε K te σ W (Odd.str n) := h
theorem ev_oT {n : List Int} (h : EvR ε K te σ W (Tup.mk n)) : EvR ε K te σ W (Odd.tup n) := h
theorem ev_oL {n : List Int} (h : EvR ε K te σ W n) : EvR ε K te σ W (Odd.lst n) := h
theorem ev_oD (h : EvD ε K te σ W (⟨[]⟩ : Dict Int Int)) : EvR ε K te σ W Odd.dct := h.rep
/-- [:2] and [2:] of a tuple of four -/
theorem ev_slQa {p : T4 α β γ δ} (h : EvR ε K te σ W p) : EvR ε K (tSl (rSlA K) te tNoPart (tPart (tC (.int 2)))) σ W (p.a, p.b) := fun W1 g1 Q k => h W1 g1 _ fun v W2 g2 ⟨a, x, y, z, w, e, s, r1, r2, r3, r4⟩ =>
  ⟨2, rfl, a, [x, y, z, w], e, SqT.of (W2.sub.et s), fun h0 => absurd h0.2 (by show ¬ (min 2 4 = 4); decide), fun _ p hp => k _ (W2.add p (.tup [x, y])) (g2.and (W2.grow_add hp)) ⟨p, x, y, rfl, upd_same, rep_g (W2.grow_add hp) r1, rep_g (W2.grow_add hp) r2⟩⟩
theorem ev_slQb {p : T4 α β γ δ} (h : EvR ε K te σ W p) : EvR ε K (tSl (rSlA K) te (tPart (tC (.int 2))) tNoPart) σ W (p.c, p.d) := fun W1 g1 Q k => h W1 g1 _ fun v W2 g2 ⟨a, x, y, z, w, e, s, r1, r2, r3, r4⟩ =>
  ⟨2, rfl, a, [x, y, z, w], e, SqT.of (W2.sub.et s), fun h0 => absurd h0.1 (by show ¬ (min 2 4 = 0); decide), fun _ p hp => k _ (W2.add p (.tup [z, w])) (g2.and (W2.grow_add hp)) ⟨p, z, w, rfl, upd_same, rep_g (W2.grow_add hp) r3, rep_g (W2.grow_add hp) r4⟩⟩
theorem rc_min {xs : List Int} {m : Int} (h1 : m ∈ xs) (h2 : ∀ y ∈ xs, m ≤ y) : RC1 K (rMin K) xs m := fun v W1 ⟨a, vs, e, s, r⟩ Q k => ⟨a, xs, by rw [e], by rw [← reps_int r]; exact SqL.of (W1.sub.el s), List.length_pos_of_mem h1, fun m' h3 h4 => by
  have : m' = m := Int.le_antisymm (h4 m h1) (h2 m' h3)
  rw [this]
  exact k _ W1 (.refl _ _) rfl⟩
end
end B
/-! BY: a set made of a list, by what its filling promises -/
namespace BY
open PySem PySem.Spec PyProof.Rows L2
section
variable {P : Program} {w : World} {A : Around} {E : Value → Shared → Prop} {s : Shared}
abbrev set0 (w : World) : Obj := { cls := .type "set", dict := none, data := .set #[] 0 (.fresh 0 0 (!w.params.followText "set-order")) }
abbrev it0 (l : Addr) : Obj := { cls := .type "list_iterator", data := .fields #[.ref l, .int 0 0] }
set_option maxHeartbeats 8000000 in
theorem set_of_list {l : Addr} {items : Array Value} {Q : Value → Shared → Prop} {Pz : Heap → Nat → Prop} (hl : s.heap.IsList l items)
    (hloop : ∀ R : Result → Shared → Prop, (∀ h' tk, Pz h' tk → R (.ok (.ret .none)) { s with heap := h', toks := tk }) →
      codeAny (model P w) A.in1.in1 (.builtin "set.update.loop" ⟨[.ref s.heap.objs.size, .ref (s.heap.push (set0 w)).objs.size], []⟩) R { s with heap := (s.heap.push (set0 w)).push (it0 l) })
    (h : ∀ h' tk, Pz h' tk → Q (.ref s.heap.objs.size) { s with heap := h', toks := tk }) : wpAny (model P w) A (call (.type "set") [.ref l]) Q E s := by
  obtain ⟨c, tl, hmro⟩ := F.called_set.mro
  have i1 := F.called_set.made
  have i2 := F.called_set.sub
  have i3 := F.called_set.notType
  have i4 := F.called_set.canCreate
  have i5 := F.typeCall_set_1 (.ref l)
  refine wpAny_call (codeAny_of_tree ?_)
  show wpAny _ _ (callAny (.type "set") _) _ _ _
  refine wpAny_pure ⟨Code.quiet_builtin _ (by decide +kernel), codeAny_builtin F.entry_type_call ?_⟩
  rw [Around.under_plain (weight_type_call_type "set" [.ref l] []) rfl]
  repeat (any_goals (first | assumption | wp_step))
  refine codeAny_mono (code_set_led1 (.ref l) (E := E) (Q₁ := fun x t => x = .ref s.heap.objs.size ∧ t = { s with heap := s.heap.push (set0 w) }) ⟨rfl, rfl⟩) fun r t hr => ?_
  match r, hr with
  | .error e, hr => exact hr
  | .ok .next, hr => exact hr.elim
  | .ok .brk, hr => exact hr.elim
  | .ok .cont, hr => exact hr.elim
  | .ok (.ret x), hr =>
    obtain ⟨rfl, rfl⟩ := hr
    have at0 : (s.heap.push (set0 w)).get? s.heap.objs.size = some (set0 w) := Heap.get?_push_size _ rfl
    have ty0 : Shared.TypeIs { s with heap := s.heap.push (set0 w) } (.ref s.heap.objs.size) "set" := ⟨_, at0, rfl⟩
    have j1 := F.called_set.init.lookup
    have j2 := F.called_set.init.bind (.ref s.heap.objs.size)
    repeat (any_goals (first | assumption | wp_step))
    refine codeAny_mono (codeAny_call_builtin (R := wants (fun r t => r = .none ∧ ∃ h' tk, t = { s with heap := h', toks := tk } ∧ Pz h' tk) E) F.called_set.init.plain F.entry_set_init (check_set_init_1 ty0 ?_)) fun r t hr => ?_
    · obtain ⟨⟨oc, od, oda, osl⟩, ho, hc, ne, hd⟩ := hl
      simp only at hc hd
      subst hc
      subst hd
      have ho' : (s.heap.push (set0 w)).get? l = some { cls := .type "list", dict := od, data := .seq items ne, slots := osl } := Heap.get?_push_of_some _ ho
      have k1 := F.sub_list_set
      have k2 := F.sub_list_frozenset
      have k3 : (Value.type "list" == Value.type "dict") = false := by decide
      have il : (s.heap.push (set0 w)).IsList l items := ⟨_, ho', rfl, ne, rfl⟩
      unfold Builtin.«set.__init__» noKeywords Builtin.Frozenset.updateFrom
      generalize hPI : pyIter = PI
      wp_walk
      subst hPI
      refine wpAny_pyIter_list il (wpAny_bind (wpAny_runValue (hloop _ fun h' tk q => ?_)))
      show wpAny _ _ _ _ _ _
      refine wpAny_pure ?_
      show wpAny _ _ (ret Value.none) _ _ _
      exact wpAny_pure ⟨rfl, h', tk, rfl, q⟩
    · match r, hr with
      | .error e, hr => exact hr
      | .ok .next, hr => exact hr.elim
      | .ok .brk, hr => exact hr.elim
      | .ok .cont, hr => exact hr.elim
      | .ok (.ret x), hr =>
        obtain ⟨rfl, h', tk, rfl, q⟩ := hr
        repeat (any_goals (first | assumption | wp_step))
        exact h _ _ q
/-- set(xs), a list of ints -/
theorem set_listI {l : Addr} {items : Array Value} {ns : List Int} {Q : Value → Shared → Prop} (hh : A.handled = none) (hl : s.heap.IsList l items) (hit : IntsAre items.toList ns) (hb : ns.length + 1 < scanBound)
    (h : ∀ (h' : Heap) (tk c : Nat), SetR w h' s.heap.objs.size (fun j => decide (j ∈ ns)) c → c ≤ ns.length → (∀ b o, s.heap.get? b = some o → h'.get? b = some o) → Q (.ref s.heap.objs.size) { s with heap := h', toks := tk }) :
    wpAny (model P w) A (call (.type "set") [.ref l]) Q E s := by
  have hn : items.size = ns.length := by
    have := IntsAre.length hit
    rwa [Array.length_toList] at this
  have lt : l < s.heap.objs.size := by
    obtain ⟨o, ho, _⟩ := hl
    exact Heap.lt_size ho
  have sz : (s.heap.push (set0 w)).objs.size = s.heap.objs.size + 1 := Heap.size_push ..
  have at0 : (s.heap.push (set0 w)).get? s.heap.objs.size = some (set0 w) := Heap.get?_push_size _ rfl
  refine set_of_list (Pz := fun h' tk => ∃ c, SetR w h' s.heap.objs.size (fun j => decide (j ∈ ns)) c ∧ c ≤ ns.length ∧ ∀ b o, s.heap.get? b = some o → h'.get? b = some o) hl (fun R k => ?_) fun h' tk ⟨c, q1, q2, q3⟩ => h h' tk c q1 q2 q3
  have il : (s.heap.push (set0 w)).IsList l items := hl.push _
  refine set_update_ints ((Walks.list (by simp [hh]) (s.heap.push (set0 w)).objs.size l (by rw [sz]; exact Nat.ne_of_lt (Nat.lt_succ_of_lt lt)) items).toS) s.heap.objs.size (by rw [sz]; simp only [List.mem_cons, List.not_mem_nil, or_false, not_or]; exact ⟨Nat.ne_of_lt (Nat.lt_succ_self _), Nat.ne_of_gt lt⟩) ns hn hb (fun i v hv => ?_) items.size 0 _ (by omega) (Nat.zero_le _)
    ⟨⟨_, Heap.get?_push_size _ rfl, rfl, rfl⟩, il.push _⟩ ⟨0, Nat.le_refl _, setR_new_at (Heap.get?_push_of_some _ at0)⟩ fun s' c m hc hS => ?_
  · have hi : i < ns.length := by rw [← hn]; exact (Array.getElem?_eq_some_iff.mp hv).1
    obtain ⟨t, e⟩ := PyProof.Rows.IntsAre.int_at hit i v (by rw [Array.getElem?_toList]; exact hv)
    refine ⟨ns[i], t, List.getElem?_eq_getElem hi, ?_⟩
    rw [e, List.getD_eq_getElem?_getD, List.getElem?_eq_getElem hi]
    rfl
  · obtain ⟨h', g', d', tk', os'⟩ := s'
    obtain rfl : g' = s.gens := m.gens
    obtain rfl : d' = s.drawn := m.drawn
    obtain rfl : os' = s.os := m.os
    refine k h' tk' ⟨c, hS, by rw [← hn]; exact hc, fun b o e => ?_⟩
    have hb0 := Heap.lt_size e
    exact m.heap b o (by rw [sz]; simp only [List.mem_cons, List.not_mem_nil, or_false, not_or]; exact ⟨Nat.ne_of_lt hb0, Nat.ne_of_lt (Nat.lt_succ_of_lt hb0)⟩) (Heap.get?_push_of_some _ (Heap.get?_push_of_some _ e))
end
section
variable {X : Cx} {tg : Expr}
/-- sorted(set(xs)), a list of ints -/
def tSortSetL (K : PySem.W.Frag) (ta : TE) : TE := fun σ H Q => ta σ H fun x H1 => ∃ (l : Addr) (ns : List Int), x = .ref l ∧ SqL K H1 l (ns.map V.int) ∧ ns.length ≤ 4000 ∧
  ∀ (ns' : List Int) (p : Addr), ns'.Pairwise (· < ·) → (∀ k, k ∈ ns' ↔ k ∈ ns) → H1 p = none → Q (.ref p) (upd H1 p (.lst (ns'.map V.int)))
theorem pe_sortSetL {a : Expr} {ta : TE} {p p2 q pos : Pos} (hg : Gl X "sorted") (hm : X.mg "sorted" = none) (hg2 : Gl X "set") (hm2 : X.mg "set" = none) (ha : PE X a ta) (hc : X.calm = true := by rfl)
    (na : starEach [a] X.env = (false, eval a X.env) :: starEach [] X.env := by rfl) : PE X (.Call (.Name "sorted" p) [.Call (.Name "set" p2) [a] [] q] [] pos) (tSortSetL X.K ta) := by
  refine ⟨fun pins s σ H Q I h => ?_⟩
  refine Call_ (ld_blt I hg hm (show bootBuiltins "sorted" = some (.builtin "sorted") by decide +kernel) ?_)
  refine PyProof.Rows.callWith_builtin1 (PyProof.Rows.args_cons ?_ rfl) rfl rfl
  refine Call_ (ld_blt I hg2 hm2 boot_set ?_)
  refine PyProof.Rows.callWith_type1 (PyProof.Rows.args_cons (thn (ha.run pins s σ H _ I h) fun v s1 ⟨x, H1, I1, r1, q1⟩ => PyProof.Rows.args_nil ?_) na) na rfl
  obtain ⟨l, ns, rfl, hq, hl, q1⟩ := q1
  cases r1
  obtain ⟨its, r, pl, hz⟩ := I1.list hq
  refine set_listI (I1.ok.hd hc) (items := its.toArray) pl.isList (by simpa using r.ints) (by unfold scanBound; omega) fun h' tk c hS hc' hk => ?_
  refine PyProof.Rows.args_nil ?_
  exact set_sorted (I1.kept hk) hS (by omega) hc q1
/-- enumerate of a row that is a list or a tuple -/
def iEnumSeq (K : PySem.W.Frag) (ta : TA) : TI := fun σ H R => (iEnum K ta σ H R) ∨ (B.iEnumT K ta σ H R)
theorem pi_enumSeq {e : Expr} {ta : TA} {p pos tpos : Pos} {elts : List Expr} {kk : Nat} (hg : Gl X "enumerate") (hm : X.mg "enumerate" = none) (ha : PA X [e] ta) (hs : starEach [e] X.env = [(false, eval e X.env)] := by rfl) :
    PI X (.Tuple elts kk tpos) (.Call (.Name "enumerate" p) [e] [] pos) (iEnumSeq X.K ta) := by
  refine ⟨fun pins s σ H R I h => ?_⟩
  rcases h with h | h
  · exact (pi_enum hg hm ha hs).run pins s σ H R I h
  · exact (B.pi_enumT hg hm ha hs).run pins s σ H R I h
end
end BY
/-! B: values of which something is known, not all (what draws make) -/
namespace B
open PySem L2
open PySem.W (Tup T3 T4 Datum DatumOrd)
open Evl (Ex)
/-- the expression gives some x of which P tells -/
def EvX {α : Type} [Py α] (ε : Ef) (K : Fg) (te : TE) (σ : SS) (W : Wd) (P : α → Prop) : Prop := EvP ε te σ W (fun v W' => ∃ x : α, P x ∧ rep K W'.B v x)
def EvAsX {α : Type} [Py α] (ε : Ef) (K : Fg) (ta : TA) (σ : SS) (W : Wd) (n : Nat) (P : α → Prop) : Prop :=
  ∀ W1, Stp ε W W1 → ∀ Q : List V → Hp → Prop, (∀ vs W2 (xs : List α), Stp ε W1 W2 → Reps K W2.B vs xs → xs.length = n → (∀ x ∈ xs, P x) → Q vs W2.H) → ta σ W1.H Q
section
variable {α β γ : Type} [Py α] [Py β] [Py γ] {K : Fg} {σ : SS} {W : Wd} {ε : Ef} {te ta tb : TE} {tr : TA} {tt : TT} {P P' : α → Prop} {R : β → Prop} {S : γ → Prop}
theorem ex_of {x : α} (h : EvR ε K te σ W x) (p : P x) : EvX ε K te σ W P := fun W1 g1 Q k => h W1 g1 _ fun v W2 g2 r => k v W2 g2 ⟨x, p, r⟩
theorem EvX.imp (h : EvX ε K te σ W P) (i : ∀ x, P x → P' x) : EvX ε K te σ W P' := fun W1 g1 Q k => h W1 g1 _ fun v W2 g2 ⟨x, p, r⟩ => k v W2 g2 ⟨x, i x p, r⟩
theorem ex_op {r : R2} (ha : EvX ε K ta σ W P) (hb : EvX ε K tb σ W R) (ho : ∀ x y, P x → R y → ∃ z, S z ∧ RO K r x y z) : EvX ε K (tOp r ta tb) σ W S := fun W1 g1 Q k =>
  ha W1 g1 _ fun v W2 g2 ⟨x, px, rx⟩ => hb W2 (g1.trans g2) _ fun u W3 g3 ⟨y, py, ry⟩ => by
    obtain ⟨z, sz, o⟩ := ho x y px py
    exact o v u W3 (rep_s g3 rx) ry Q fun w W4 g4 rw => k w W4 (g2.trans (g3.and g4)) ⟨z, sz, rw⟩
theorem ex_cb1 {r : List V → Hp → VK → Prop} (ha : EvX ε K ta σ W P) (ho : ∀ x, P x → ∃ y, R y ∧ RC1 K r x y) : EvX ε K (tCB r (tCons ta tNil)) σ W R := fun W1 g1 Q k =>
  ha W1 g1 _ fun v W2 g2 ⟨x, px, rx⟩ => by
    obtain ⟨y, sy, o⟩ := ho x px
    exact o v W2 rx Q fun w W4 g4 rw => k w W4 (g2.and g4) ⟨y, sy, rw⟩
theorem ex_if {b : Bool} (h : EvT ε tt σ W b) (h1 : b = true → EvX ε K ta σ W P) (h2 : b = false → EvX ε K tb σ W P) : EvX ε K (tIf tt ta tb) σ W P := fun W1 g1 Q k => h W1 g1 _ fun W2 g2 => by
  cases b with
  | true => exact h1 rfl W2 (g1.trans g2) _ fun v W3 g3 r => k v W3 (g2.trans g3) r
  | false => exact h2 rfl W2 (g1.trans g2) _ fun v W3 g3 r => k v W3 (g2.trans g3) r
theorem exa_nil : EvAsX ε K tNil σ W 0 P := fun W1 g1 Q k => k [] W1 [] g1.rf .nil rfl (fun x h => by cases h)
theorem exa_cons {n : Nat} (h : EvX ε K te σ W P) (hr : EvAsX ε K tr σ W n P) : EvAsX ε K (tCons te tr) σ W (n + 1) P := fun W1 g1 Q k =>
  h W1 g1 _ fun v W2 g2 ⟨x, px, rx⟩ => hr W2 (g1.trans g2) _ fun vs W3 xs g3 rs hl hp => k (v :: vs) W3 (x :: xs) (g2.trans g3) (.cons (rep_s g3 rx) rs) (by rw [List.length_cons, hl]) (fun y hy => by
    rcases List.mem_cons.mp hy with e | e
    · rw [e]; exact px
    · exact hp y e)
theorem ex_lst {n : Nat} {ta : TA} (h : EvAsX ε K ta σ W n P) (hl : n ≤ 100000) : EvX ε K (tLst ta) σ W (fun xs : List α => xs.length = n ∧ ∀ x ∈ xs, P x) := fun W1 g1 Q k =>
  h W1 g1 _ fun vs W2 xs g2 rs hn hp => ⟨Evl.sz_of (by rw [Reps.len rs, hn]; exact hl), fun p hq => k _ (W2.add p (.lst vs)) (g2.and (W2.grow_add hq)) ⟨xs, ⟨hn, hp⟩, p, vs, rfl, upd_same, Reps.mono (exExt (W2.grow_add hq).b) rs⟩⟩
/-- an item at a drawn place -/
theorem ep_ixD {xs : List α} (h : EvR ε K ta σ W xs) (hi : EvP ε tb σ W (fun v _ => ∃ r, v = .int r ∧ 0 ≤ r ∧ r < (xs.length : Int))) : EvX ε K (tOp (rIxL K) ta tb) σ W (fun y => y ∈ xs) := fun W1 g1 Q k =>
  h W1 g1 _ fun a W2 g2 ra => hi W2 (g1.trans g2) _ fun u W3 g3 ⟨r, e, h0, h1⟩ => by
    obtain ⟨j, hj⟩ : ∃ j : Nat, r = (j : Int) := ⟨r.toNat, by omega⟩
    have hjl : j < xs.length := by omega
    exact ro_ixL (K := K) (x := xs[j]) (i := r) (by rw [hj]; exact atI_nat (List.getElem?_eq_getElem hjl)) a u W3 (rep_s g3 ra) e Q fun w W4 g4 rw => k w W4 (g2.trans (g3.and g4)) ⟨xs[j], List.getElem_mem _, rw⟩
theorem EvP.imp {P R : V → Wd → Prop} (h : EvP ε te σ W P) (i : ∀ v W, P v W → R v W) : EvP ε te σ W R := fun W1 g1 Q k => h W1 g1 _ fun v W2 g2 p => k v W2 g2 (i _ _ p)
theorem ex_sortSetL {n : Nat} (h : EvX ε K te σ W (fun xs : List Int => xs.length ≤ n)) (hn : n ≤ 4000) : EvX ε K (BY.tSortSetL K te) σ W (fun xs : List Int => xs.length ≤ n) := fun W1 g1 Q k => h W1 g1 _ fun v W2 g2 ⟨xs, hx, a, vs, e, s, r⟩ => by
  have e2 := reps_int r
  subst e2
  refine ⟨a, xs, e, SqL.of (W2.sub.el s), by omega, fun ns p hs hm hq => k _ (W2.add p _) (g2.and (W2.grow_add hq)) ⟨ns, ?_, p, _, rfl, upd_same, int_reps _⟩⟩
  have := nodup_le (hs.imp fun h e => by omega) (m := xs) fun k hk => (hm k).mp hk
  omega
end
end B
/-! BY: sets of keys of any kind, filled; len(set(list of texts)) -/
namespace BY
open PySem PySem.Spec PyProof.Rows L2
section
variable {P : Program} {w : World} {A : Around} {E : Value → Shared → Prop} {s : Shared} {κ : Type} [DecidableEq κ]
def inK (ks : List κ) (j : κ) : Bool := decide (j ∈ ks)
theorem fill_keys {knd : PySem.KeyKind P w κ} {I : Addr} {fp wr : List Addr} {G : Array GenState → Array GenState → Prop} {n : Nat} {Pv : Nat → Value → Prop} {St : Nat → Shared → Prop} {R : Result → Shared → Prop}
    (W : WalksS P w A.in1 I fp wr G n Pv St) {S : Addr} (hSf : S ∉ fp) {ks : List κ} (hn : n = ks.length) (hb : ks.length + 1 < scanBound) (hval : ∀ i v, Pv i v → ∃ k, ks[i]? = some k ∧ knd.is k v = true ∧ v.scannable = true) (hnd : ks.Nodup) :
    ∀ (m i : Nat) (s : Shared), n - i = m → i ≤ n → St i s → s.heap.SetOf knd S (inK (ks.take i)) i →
      (∀ s', Moved (S :: wr) G s s' → s'.heap.SetOf knd S (inK ks) n → R (.ok (.ret .none)) s') → codeAny (model P w) A (.builtin "set.update.loop" ⟨[.ref S, .ref I], []⟩) R s
  | 0, i, s, hm, hi, st, h, k => by
    obtain rfl : i = n := by omega
    have e : ks.take i = ks := List.take_of_length_le (by omega)
    rw [e] at h
    refine codeAny_builtin F.entry_set_update_loop ?_
    rw [Around.under_plainId F.plain_set_update_loop _]
    show wpAny _ A.in1 (pyNext (.ref I) >>= _) _ _ s
    refine wpAny_bind (W.done s _ _ st fun s' mv => ?_)
    have ne : S ∉ wr := fun z => hSf (W.sub _ z)
    obtain ⟨o, es, ep, t, ho, r⟩ := h
    exact wpAny_pure (k s' (mv.mono fun b hb => List.mem_cons_of_mem _ hb) ⟨o, es, ep, t, mv.heap S o ne ho, r⟩)
  | m + 1, i, s, hm, hi, st, h, k => by
    have hlt : i < n := by omega
    have ne : S ∉ wr := fun z => hSf (W.sub _ z)
    refine codeAny_builtin F.entry_set_update_loop ?_
    rw [Around.under_plainId F.plain_set_update_loop _]
    show wpAny _ A.in1 (pyNext (.ref I) >>= _) _ _ s
    refine wpAny_bind (W.item i s _ _ hlt st fun v s' pv st' mv => ?_)
    obtain ⟨x, hx, is, sc⟩ := hval i v pv
    have h' : s'.heap.SetOf knd S (inK (ks.take i)) i := by
      obtain ⟨o, es, ep, t, ho, r⟩ := h
      exact ⟨o, es, ep, t, mv.heap S o ne ho, r⟩
    have hni : x ∉ ks.take i := fun z => by
      obtain ⟨j, hj, e⟩ := List.mem_take_iff_getElem.mp z
      obtain ⟨hi', e2⟩ := List.getElem?_eq_some_iff.mp hx
      exact List.pairwise_iff_getElem.mp hnd j i (by omega) hi' (by omega) (e.trans e2.symm)
    show wpAny _ A.in1 (holding [v] (setAdd S v) >>= _) _ _ s'
    refine wpAny_bind (wpAny_holding ?_)
    unfold setAdd
    refine wpAny_holding (wpAny_bind (knd.pyHash is ?_))
    refine wpAny_setAddHashed_of (s := { s' with toks := s'.toks + 1 }) is sc h' (by omega) fun h2 sb new => ?_
    have new2 : h2.SetOf knd S (inK (ks.take (i + 1))) (i + 1) := by
      rw [if_neg (by unfold inK; rw [decide_eq_true_eq]; exact hni)] at new
      have e : (fun j => inK (ks.take i) j || decide (j = x)) = inK (ks.take (i + 1)) := by
        funext j
        unfold inK
        rw [List.take_add_one, hx]
        simp [List.mem_append]
      rwa [e] at new
    refine wpAny_pure ⟨plainId_quiet F.plain_set_update_loop _, fill_keys W hSf hn hb hval hnd m (i + 1) _ (by omega) hlt (W.frame _ s' _ _ st' (Nat.le_succ _) fun b hb o e => ?_) new2 fun s2 mv2 q => ?_⟩
    · rw [sb.2 b (fun z : b = S => hSf (by rw [← z]; exact hb))]
      exact e
    · refine k s2 (Moved.trans W.gtrans ((mv.mono fun b hb => List.mem_cons_of_mem _ hb).then_heap (Nat.le_succ _) fun b o hb e => ?_) mv2) q
      rw [sb.2 b (fun z => hb (by rw [z]; exact List.mem_cons_self))]
      exact e
/-- texts as keys -/
def keysS (xs : List Str) : List Key := xs.map fun x => Sum.inr x
/-- set(xs), a list of unlike texts -/
theorem set_listS {l : Addr} {its : List Value} {xs : List Str} {Q : Value → Shared → Prop} (hh : A.handled = none) (hl : s.heap.IsList l its.toArray) (r : Vals (xs.map V.str) its) (hb : xs.length + 1 < scanBound) (hnd : xs.Nodup)
    (h : ∀ (h' : Heap) (tk : Nat), h'.SetOf (mixKind P w) s.heap.objs.size (inK (keysS xs)) xs.length → (∀ b o, s.heap.get? b = some o → h'.get? b = some o) → Q (.ref s.heap.objs.size) { s with heap := h', toks := tk }) :
    wpAny (model P w) A (call (.type "set") [.ref l]) Q E s := by
  have hn : its.toArray.size = (keysS xs).length := by
    have := r.length
    rw [List.length_map] at this
    unfold keysS
    rw [List.size_toArray, List.length_map]
    exact this.symm
  have hn' : its.toArray.size = xs.length := by rw [hn]; unfold keysS; rw [List.length_map]
  have lt : l < s.heap.objs.size := by
    obtain ⟨o, ho, _⟩ := hl
    exact Heap.lt_size ho
  have sz : (s.heap.push (set0 w)).objs.size = s.heap.objs.size + 1 := Heap.size_push ..
  have at0 : (s.heap.push (set0 w)).get? s.heap.objs.size = some (set0 w) := Heap.get?_push_size _ rfl
  refine set_of_list (Pz := fun h' tk => h'.SetOf (mixKind P w) s.heap.objs.size (inK (keysS xs)) xs.length ∧ ∀ b o, s.heap.get? b = some o → h'.get? b = some o) hl (fun R k => ?_) fun h' tk ⟨q1, q2⟩ => h h' tk q1 q2
  have il : (s.heap.push (set0 w)).IsList l its.toArray := hl.push _
  refine fill_keys (knd := mixKind P w) (ks := keysS xs) ((Walks.list (by simp [hh]) (s.heap.push (set0 w)).objs.size l (by rw [sz]; exact Nat.ne_of_lt (Nat.lt_succ_of_lt lt)) its.toArray).toS) (by rw [sz]; simp only [List.mem_cons, List.not_mem_nil, or_false, not_or]; exact ⟨Nat.ne_of_lt (Nat.lt_succ_self _), Nat.ne_of_gt lt⟩) hn (by unfold keysS; rw [List.length_map]; exact hb) (fun i v hv => ?_)
    (by unfold keysS; exact List.pairwise_map.mpr (hnd.imp fun ne e => ne (Sum.inr.inj e))) its.toArray.size 0 _ (by omega) (Nat.zero_le _)
    ⟨⟨_, Heap.get?_push_size _ rfl, rfl, rfl⟩, il.push _⟩ ⟨_, #[], 0, _, Heap.get?_push_of_some _ at0, ⟨rfl, rfl, rfl⟩, rfl, (fun e he => by simp at he), (fun k => by simp [inK]), (by decide), (by rfl), rfl⟩ fun s' m hS => ?_
  · have hv' : its[i]? = some v := by simpa using hv
    have hi : i < xs.length := by
      have := (List.getElem?_eq_some_iff.mp hv').1
      rw [← hn', List.size_toArray]
      exact this
    obtain ⟨u, hu, ru⟩ := r.get (i := i) (x := V.str xs[i]) (by rw [List.getElem?_map, List.getElem?_eq_getElem hi]; rfl)
    rw [hv'] at hu
    cases hu
    have rk : RelV (kV (Sum.inr xs[i])) v := ru
    exact ⟨Sum.inr xs[i], by unfold keysS; rw [List.getElem?_map, List.getElem?_eq_getElem hi]; rfl, kV_is rk, key_scan rk⟩
  · obtain ⟨h', g', d', tk', os'⟩ := s'
    obtain rfl : g' = s.gens := m.gens
    obtain rfl : d' = s.drawn := m.drawn
    obtain rfl : os' = s.os := m.os
    refine k h' tk' ⟨by rw [← hn']; exact hS, fun b o e => ?_⟩
    have hb0 := Heap.lt_size e
    exact m.heap b o (by rw [sz]; simp only [List.mem_cons, List.not_mem_nil, or_false, not_or]; exact ⟨Nat.ne_of_lt hb0, Nat.ne_of_lt (Nat.lt_succ_of_lt hb0)⟩) (Heap.get?_push_of_some _ (Heap.get?_push_of_some _ e))
end
section
variable {X : Cx}
/-- len(set(xs)), a list of unlike texts -/
def tLenSetS (K : PySem.W.Frag) (ta : TE) : TE := fun σ H Q => ta σ H fun x H1 => ∃ (l : Addr) (xs : List Str), x = .ref l ∧ SqL K H1 l (xs.map V.str) ∧ xs.Nodup ∧ xs.length ≤ 4000 ∧ Q (.int (xs.length : Nat)) H1
theorem pe_lenSetS {a : Expr} {ta : TE} {p p2 q pos : Pos} (hg : Gl X "len") (hm : X.mg "len" = none) (hg2 : Gl X "set") (hm2 : X.mg "set" = none) (ha : PE X a ta) (hc : X.calm = true := by rfl)
    (na : starEach [a] X.env = (false, eval a X.env) :: starEach [] X.env := by rfl) : PE X (.Call (.Name "len" p) [.Call (.Name "set" p2) [a] [] q] [] pos) (tLenSetS X.K ta) := by
  refine ⟨fun pins s σ H Q I h => ?_⟩
  refine Call_ (ld_blt I hg hm boot_len ?_)
  refine PyProof.Rows.callWith_builtin1 (PyProof.Rows.args_cons ?_ rfl) rfl rfl
  refine Call_ (ld_blt I hg2 hm2 boot_set ?_)
  refine PyProof.Rows.callWith_type1 (PyProof.Rows.args_cons (thn (ha.run pins s σ H _ I h) fun v s1 ⟨x, H1, I1, r1, q1⟩ => PyProof.Rows.args_nil ?_) na) na rfl
  obtain ⟨l, xs, rfl, hq, hnd, hl, q1⟩ := q1
  cases r1
  obtain ⟨its, r, pl, hz⟩ := I1.list hq
  refine set_listS (I1.ok.hd hc) pl.isList r (by unfold scanBound; omega) hnd fun h' tk hS hk => ?_
  refine PyProof.Rows.args_nil ?_
  obtain ⟨o, es, ep, t, ho, hex, hd, _, _, _, hf, hn⟩ := hS
  have I2 : Inv X pins σ H1 { s1 with heap := h', toks := tk } := I1.kept hk
  exact call_len_set ho hex hd hf (by rw [hn] <;> omega) ⟨.int (xs.length : Nat), H1, I2.tok _, ⟨_, by rw [hn]⟩, q1⟩
end
end BY
/-! B: != of own instances by their own == -/
namespace B
open PySem L2 PySem.Spec PyProof.Rows
section
variable {prog : Program} {w : World} {A : Around} {E : Value → Shared → Prop} {s : Shared} {K : Fg} {x y C L f : Addr} {h₀ : Heap} {m : Str → Option Value} {ox : Obj} {od : Option Obj}
theorem ne_body {Q : PySem.Fin → Shared → Prop} (X : K.In s.heap) (I : PySem.W.InstAt s.heap x ox C od) (hs : PySem.W.findIn K (.ref C) "__eq__" = some (some (.ref f))) (hf : PySem.W.isFn K (.ref f) = true) (hu : A.units < cLine)
    (h : wpAny (model prog w) A (call (.ref f) [.ref x, .ref y]) (fun v s' => ∃ b, v = .bool b ∧ Q (.done (.ret (.bool (!b)))) s') E s) : wpAny (model prog w) A (Builtin.«object.__ne__» ⟨[.ref x, .ref y], []⟩) Q E s := by
  unfold Builtin.«object.__ne__»
  repeat (first
    | with_reducible refine wpAny_cRoomFor hu ?_
    | (refine wpAny_bind (m := callSpecialIfBound? (.ref x) (Str.ofString "__eq__") [.ref y]) (PySem.W.ifBound_K X I hs hf (wpAny_mono h (fun v s' hv => ?_) fun _ _ e => e)))
    | wp_step)
  obtain ⟨b, rfl, q⟩ := hv
  repeat (first | exact q | exact wpAny_pure q | exact wpAny_truthy_bool q | (refine wpAny_bind (m := truthy (.bool _)) (wpAny_truthy_bool ?_)) | wp_step)
theorem ne_bound {M : Model} {args : List Value} {Q : Option Value → Shared → Prop} (X : K.In s.heap) (I : PySem.W.InstAt s.heap x ox C od) (hs : PySem.W.findIn K (.ref C) "__ne__" = some (some (.builtin "object.__ne__")))
    (h : wpAny M A (call (.builtin "object.__ne__") (.ref x :: args)) (fun v => Q (some v)) E s) : wpAny M A (callSpecialIfBound? (.ref x) "__ne__" args) Q E s := by
  simp only [callSpecialIfBound?, bindSpecialIfBound?]
  refine wpAny_holding (wpAny_bind (wpAny_bind (wpAny_bind (I.type.here ((PySem.W.looks_findIn X hs).here ?_)))))
  refine wpAny_bind (wpAny_askSetting (wpAny_ite ?_))
  have fin : wpAny M A (call (.builtin "object.__ne__") ([.ref x] ++ args) >>= fun v => pure (some v)) Q E s := wpAny_bind (wpAny_mono h (fun v s' h' => wpAny_pure h') fun _ _ h' => h')
  simp only [PySem.F.cmp_object.ne.bind]
  split
  · exact wpAny_bind (wpAny_pure (wpAny_pure fin))
  · exact wpAny_tryCatch (wpAny_bind (wpAny_pure (wpAny_pure fin)))
end
section
variable {X : Cx} {CX : CXT} {k : Nat} {f C : Addr} {fd : FuncData} {ps : List Str} {sp : Sp} {E : XK}
/-- x != y, two instances of the class at C, whose own __eq__ keeps the promise sp -/
def rInsNe (C : Addr) (sp : Sp) (E : XK) : R2 := fun x y H Q => ∃ a b dx dy fs gs, x = .ref a ∧ y = .ref b ∧ H a = some (.ins C dx fs) ∧ H b = some (.ins C dy gs) ∧ sp [x, y] H (fun v H' => ∃ r, v = .bl r ∧ Q (.bl (!r)) H') E
theorem op_insNe (F : FnOk X.prog X.w X.K X.mg X.base CX k f fd ps sp) (hr : Room (k + 1) X.A) (hm : Meth X.K C "__eq__" f) (hn : PySem.W.findIn X.K (.ref C) "__ne__" = some (some (.builtin "object.__ne__")))
    (ho : PySem.W.mroIn X.K C (.type "object") = some true) (hb : Binds X.K fd ps []) (hx : Passes CX X E) : OpR X (compareOp .NotEq) (rInsNe C sp E) := by
  intro pins s σ H x y v u Q I rx ry h
  obtain ⟨a, b, dx, dy, fs, gs, rfl, rfl, ha, hb', q⟩ := h
  cases (show v = Value.ref a from rx)
  cases (show u = Value.ref b from ry)
  obtain ⟨mA, J, _⟩ := ins_get I.hok ha
  obtain ⟨mB, J', _⟩ := ins_get I.hok hb'
  obtain ⟨od, J, _⟩ := J.look
  obtain ⟨od', J', _⟩ := J'.look
  obtain ⟨m, hF⟩ := I.fr
  have XK := I.kIn
  show wpAny (model X.prog X.w) X.A (richCompare .NotEq (.ref a) (.ref b)) (EP X pins σ Q) X.xe s
  have own : wpAny (model X.prog X.w) X.A.in1 (call (.ref f) [.ref a, .ref b]) (fun v s' => ∃ r, v = .bool r ∧ EP X pins σ Q (.bool (!r)) s') X.xe s := by
    have hl := F.len _ _ _ _ q
    have r2 : Vals [V.ref a, V.ref b] [Value.ref a, Value.ref b] := .cons rfl (.cons rfl .nil)
    refine wpAny_call (codeAny_mono (F.run X.A.in1 X.stack s H ⟨[.ref a, .ref b], []⟩ [.ref a, .ref b] [.ref a, .ref b] _ E hr.in1 I.env0.in1 (by
      have := hb s [.ref a, .ref b] I.kIn (by simpa using hl)
      simpa using this) r2 q) fun r s' hq => ?_)
    cases r with
    | error e => exact hx pins σ H s e s' I hq
    | ok fl =>
      cases fl with
      | ret w =>
        obtain ⟨z, H', I', rz, r, rfl, q'⟩ := I.after hq
        cases rz
        exact ⟨r, rfl, .bl (!r), H', I', rfl, q'⟩
      | next => exact False.elim hq
      | brk => exact False.elim hq
      | cont => exact False.elim hq
  have one : wpAny (model X.prog X.w) X.A (tryCompare (.ref a) "__ne__" (.ref b)) (fun r s' => ∃ v, r = some v ∧ EP X pins σ Q v s') X.xe s := by
    unfold tryCompare
    refine wpAny_bind (ne_bound XK J hn (wpAny_call (codeAny_call_builtin PySem.F.cmp_object.ne.plain PySem.F.cmpEntry_ne (@PySem.W.check_slot (model X.prog X.w) _ _ s "object.__ne__" "object" "__ne__" (.ref a) [.ref b] [] _ PySem.F.cmpKind_ne PySem.F.cmpSplit_ne
      (J.type.andThen (PySem.W.looks_mroIn XK ho)) (PySem.F.cmpArgs_ne _ _) ?_))))
    refine ne_body (s := s) XK J hm.at_ hm.fn hr.in1.units0 (wpAny_mono own (fun v s' z => ?_) fun _ _ e => e)
    obtain ⟨r, rfl, z⟩ := z
    refine ⟨r, rfl, ?_⟩
    exact wpAny_pure ⟨_, rfl, z⟩
  unfold richCompare
  simp only [oneThing_ref]
  refine wpAny_holding (wpAny_bind (wpAny_cRoomFor hr.units0 ?_))
  refine wpAny_bind (J.type.here (wpAny_bind (J'.type.here ?_)))
  split
  · rename_i q; simp at q
  · refine wpAny_bind (wpAny_pure ?_)
    simp only [Bool.false_eq_true, if_false]
    refine wpAny_bind (wpAny_mono one (fun r s' z => ?_) fun _ _ e => e)
    obtain ⟨v, rfl, hq⟩ := z
    exact wpAny_pure hq
end
end B
/-! B: min(d.values()), sorted(d.items()) -/
namespace B
open PySem L2 PySem.Spec PyProof.Rows
section
variable {X : Cx}
/-- min(d.values()) -/
def rMinV : List V → Hp → VK → Prop := fun vs H Q => ∃ (v a : Addr) (kvs : List (Key × V)) (is : List Int), vs = [V.ref v] ∧ H v = some (viewHO v a) ∧ H a = some (.dK kvs) ∧ kvs.map (·.2) = is.map V.int ∧ 0 < is.length ∧ ∀ m, m ∈ is → (∀ y ∈ is, m ≤ y) → Q (.int m) H
theorem cr_minV (hc : X.calm = true) : CallR X (.builtin "min") rMinV := by
  intro pins s σ H xs us Q I r h
  obtain ⟨v, a, kvs, is, rfl, hv, ha, hi, hne, q⟩ := h
  obtain rfl := Vals.ref1 r
  obtain ⟨vs, ep, e, dat, hl, _, hval⟩ := view_at I hv ha hi
  refine call_min_walkS ?_
  obtain ⟨oI, St, hit, W, st⟩ := (PySem.W.kdl_values (prog := X.prog) (w := X.w) (knd := mixKind X.prog X.w) (d := a) (r := v) (kvs := vs) (ep := ep)).iter X.A.in1 s (I.ok.hd hc) ⟨⟨_, e, rfl, rfl⟩, dat⟩
  have hv2 : ∀ (i : Nat) (u : Value), (∃ k, vs[i]? = some (k, u)) → ∃ t, u = Value.int (is.getD i 0) t := fun i u hu => by
    obtain ⟨x, t, h1, h2⟩ := hval i u hu
    exact ⟨t, by rw [h2]; show Value.int x t = Value.int (is.getD i 0) t; rw [List.getD_eq_getElem?_getD, h1]; rfl⟩
  refine hit _ _ ⟨s.heap.objs.size, _, _, _, vs.length, _, _, fun i j => decide (is.getD i 0 < is.getD j 0), rfl, W.toS, st, fun b hb => ?_, by rw [hl]; exact hne, CmpOf.ints_lt (fun i => is.getD i 0) hv2, fun u s' hu hm => ?_⟩
  · show b < (s.heap.push oI).objs.size
    rw [Heap.size_push]
    rcases List.mem_cons.mp hb with e' | hb
    · rw [e']; exact Nat.lt_succ_self _
    · rw [List.mem_singleton.mp hb]; exact Nat.lt_succ_of_lt (by obtain ⟨ob, es, ho, _⟩ := id dat; exact Heap.lt_size ho)
  · obtain ⟨t, rfl⟩ := hv2 _ u hu
    have hk : ∀ b o, s.heap.get? b = some o → s'.heap.get? b = some o := fun b o e =>
      hm.heap b o (fun hI => absurd (Heap.lt_size e) (by rw [List.mem_singleton.mp hI]; exact Nat.lt_irrefl _)) (Heap.get?_push_of_some _ e)
    have hb := argBest_lt (fun i => is.getD i 0) (vs.length - 1)
    have hlt : argBest (fun i j => decide (is.getD i 0 < is.getD j 0)) (vs.length - 1) < is.length := by
      have := hb.1
      omega
    rw [Moved.eq_with hm]
    refine ⟨.int _, H, I.kept hk, ⟨t, rfl⟩, q _ ?_ fun y hy => ?_⟩
    · rw [List.getD_eq_getElem?_getD, List.getElem?_eq_getElem hlt, Option.getD_some]; exact List.getElem_mem hlt
    · obtain ⟨i, hi', rfl⟩ := List.getElem_of_mem hy
      have := hb.2 i (by omega)
      simpa [List.getD_eq_getElem?_getD, List.getElem?_eq_getElem hi'] using this
end
/-! ### sorted(d.items()), values ints, keys all texts or all ints -/
def kdat : Key → PyData := Sum.elim PyData.int PyData.str
def kle : Key → Key → Bool
  | .inl i, .inl j => decide (i ≤ j)
  | .inr s, .inr t => decide (s.cps.toList ≤ t.cps.toList)
  | _, _ => false
def ienc (q : Key × Int) : PyData := .tuple [kdat q.1, .int q.2]
def OneKind (ks : List (Key × Int)) : Prop := (∀ q ∈ ks, ∃ x : Str, q.1 = .inr x) ∨ ∀ q ∈ ks, ∃ i : Int, q.1 = .inl i
theorem ienc_le {a b : Key × Int} (h : (∃ x y : Str, a.1 = .inr x ∧ b.1 = .inr y) ∨ ∃ x y : Int, a.1 = .inl x ∧ b.1 = .inl y) (hl : PySem.W.dataLe false ienc a b = true) : kle a.1 b.1 = true := by
  rw [PySem.W.dataLe_eq] at hl
  obtain ⟨a1, a2⟩ := a
  obtain ⟨b1, b2⟩ := b
  rcases h with ⟨x, y, rfl, rfl⟩ | ⟨x, y, rfl, rfl⟩
  · have hl' : (!PySem.W.dataLt (.tuple [.str y, .int b2]) (.tuple [.str x, .int a2])) = true := hl
    rw [PySem.W.dataLt_pair (by simp [PySem.W.alike]) (by simp [PySem.W.alike]), PySem.W.dataLt_str] at hl'
    show decide (x.cps.toList ≤ y.cps.toList) = true
    rw [← PySem.W.not_lt_str]
    by_cases e : y = x
    · subst e; simp
    · have : PyData.eqv (.str y) (.str x) = false := by simp [PyData.eqv, e]
      rw [this] at hl'
      simpa using hl'
  · have hl' : (!PySem.W.dataLt (.tuple [.int y, .int b2]) (.tuple [.int x, .int a2])) = true := hl
    rw [PySem.W.dataLt_pair (by simp [PySem.W.alike]) (by simp [PySem.W.alike])] at hl'
    show decide (x ≤ y) = true
    rw [← PySem.W.not_lt_int]
    by_cases e : y = x
    · subst e; simp
    · have : PyData.eqv (.int y) (.int x) = false := by simp [PyData.eqv, e]
      rw [this, if_neg Bool.false_ne_true, PySem.W.dataLt_int] at hl'
      exact hl'
theorem OneKind.two {ks : List (Key × Int)} (h : OneKind ks) {a b : Key × Int} (ha : a ∈ ks) (hb : b ∈ ks) : (∃ x y : Str, a.1 = .inr x ∧ b.1 = .inr y) ∨ ∃ x y : Int, a.1 = .inl x ∧ b.1 = .inl y := by
  rcases h with h | h
  · obtain ⟨x, e⟩ := h a ha
    obtain ⟨y, e'⟩ := h b hb
    exact .inl ⟨x, y, e, e'⟩
  · obtain ⟨x, e⟩ := h a ha
    obtain ⟨y, e'⟩ := h b hb
    exact .inr ⟨x, y, e, e'⟩
theorem OneKind.alike {ks : List (Key × Int)} (h : OneKind ks) : PySem.W.AllAlike (ks.map ienc) := by
  intro d hd d' hd'
  obtain ⟨a, ha, rfl⟩ := List.mem_map.mp hd
  obtain ⟨b, hb, rfl⟩ := List.mem_map.mp hd'
  obtain ⟨a1, a2⟩ := a
  obtain ⟨b1, b2⟩ := b
  rcases h.two ha hb with ⟨x, y, e, e'⟩ | ⟨x, y, e, e'⟩
  · cases e; cases e'; simp [ienc, kdat, PySem.W.alike, PySem.W.alikeAll]
  · cases e; cases e'; simp [ienc, kdat, PySem.W.alike, PySem.W.alikeAll]
theorem isorted {ks : List (Key × Int)} (h : OneKind ks) : (ks.mergeSort (PySem.W.dataLe false ienc)).Pairwise fun a b => kle a.1 b.1 = true := by
  have := PySem.W.sort_pairwise (PySem.W.sortLe_total (PyProof.Rows.listOrd PyProof.Rows.itemOrd) false fun b => PySem.W.keyToks (ienc b)) ks
  refine List.Pairwise.imp_of_mem (fun {a b} ha hb hl => ienc_le (h.two (List.mem_mergeSort.mp ha) (List.mem_mergeSort.mp hb)) hl) this
end B
/-! B: sorted(d.items()) -/
namespace B
open PySem L2 PySem.Spec PyProof.Rows
/-- sorted(d.items()): tuples in the order of the keys -/
def rSortItems : V → Hp → VK → Prop := fun x H Q => ∃ (d : Addr) (ks : List (Key × Int)), x = .ref d ∧ H d = some (.dK (ks.map fun q => (q.1, V.int q.2))) ∧ OneKind ks ∧ ks.length ≤ 4000 ∧
  ∀ (ys : List (Key × Int)) (H' : Hp) (p : Addr) (ts : List Addr), ys.Perm ks → ys.Pairwise (fun a b => kle a.1 b.1 = true) → (∀ b o, H b = some o → H' b = some o) → H p = none → (∀ t ∈ ts, H t = none) → p ∉ ts → H' p = some (.lst (ts.map V.ref)) →
    Paired (fun (t : Addr) (q : Key × Int) => H' t = some (.tup [kV q.1, .int q.2])) ts ys → Q (.ref p) H'
def tSortItems (te : TE) : TE := fun σ H Q => te σ H fun x H1 => rSortItems x H1 Q
section
variable {prog : Program} {w : World} {A : Around} {E : Value → Shared → Prop} {s : Shared}
theorem each_refs {Rr : Value → Key × Int → Prop} : ∀ {out : List Value} {ys : List (Key × Int)}, PySem.W.EachIs Rr out ys → (∀ v q, Rr v q → ∃ t, v = .ref t) → ∃ ts : List Addr, out = ts.map Value.ref ∧ Paired (fun t q => Rr (.ref t) q) ts ys
  | _, _, .nil, _ => ⟨[], rfl, .nil⟩
  | _, _, .cons h r, hr => by
    obtain ⟨t, rfl⟩ := hr _ _ h
    obtain ⟨ts, rfl, q⟩ := each_refs r hr
    exact ⟨t :: ts, rfl, .cons h q⟩
theorem each_ix {α β : Type} {Rr : α → β → Prop} : ∀ {as : List α} {bs : List β}, as.length = bs.length → (∀ (j : Nat) (a : α) (b : β), as[j]? = some a → bs[j]? = some b → Rr a b) → PySem.W.EachIs Rr as bs
  | [], [], _, _ => .nil
  | [], _ :: _, h, _ => by simp at h
  | _ :: _, [], h, _ => by simp at h
  | a :: as, b :: bs, h, q => .cons (q 0 a b rfl rfl) (each_ix (by simpa using h) fun j x y h1 h2 => q (j + 1) x y (by simpa using h1) (by simpa using h2))
theorem paired_imp {α β : Type} {R S : α → β → Prop} : ∀ {as : List α} {bs : List β}, Paired R as bs → (∀ a b, a ∈ as → R a b → S a b) → Paired S as bs
  | _, _, .nil, _ => .nil
  | _, _, .cons h r, q => .cons (q _ _ List.mem_cons_self h) (paired_imp r fun a b ha => q a b (List.mem_cons_of_mem _ ha))
/-- what the k-th pair is, on the heap -/
def PairAt (h : Heap) (t : Addr) (q : Key × Int) : Prop := ∃ key tk', h.get? t = some { cls := .type "tuple", data := .seq #[key, .int q.2 tk'] } ∧ RelV (kV q.1) key
theorem PairAt.reads {h h2 : Heap} {t : Addr} {q : Key × Int} (p : PairAt h t q) (k : ∀ b o, h.get? b = some o → h2.get? b = some o) : Reads h2 (.ref t) (ienc q) [] := by
  obtain ⟨key, tk', f3, rk⟩ := p
  obtain ⟨q1, q2⟩ := q
  have rkey : Reads h2 key (kdat q1) [] := by
    cases q1 with
    | inl i => obtain ⟨t, rfl⟩ := (show ∃ t, key = Value.int i t from rk); exact .int i t
    | inr x => obtain ⟨t, rfl⟩ := (show ∃ t, key = Value.str x t from rk); exact .str x t
  exact .tuple (vs := #[key, .int q2 tk']) (k _ _ f3) rfl rfl (.cons (as := []) (bs := []) rkey (.cons (as := []) (bs := []) (.int q2 tk') .nil))
theorem ienc_depth (q : Key × Int) : (ienc q).depth ≤ 1 := by
  obtain ⟨q1, q2⟩ := q
  cases q1 <;> simp [ienc, kdat, PyData.depth, PyData.depthAll]
def IxP (as : List Addr) (ks : List (Key × Int)) (v : Value) (q : Key × Int) : Prop := ∃ (j : Nat) (t : Addr), v = .ref t ∧ as[j]? = some t ∧ ks[j]? = some q
/-- the list of pairs, sorted -/
theorem sort_pairs {a : Addr} {n : Nat} {as : List Addr} {ks : List (Key × Int)} {Q : Value → Shared → Prop} (ho : s.heap.get? a = some (seqObj "list" (as.map Value.ref).toArray n)) (hl : as.length = ks.length) (pr : ∀ (j : Nat) (t : Addr) (q : Key × Int), as[j]? = some t → ks[j]? = some q → PairAt s.heap t q)
    (hok : OneKind ks) (h4 : ks.length ≤ 4000) (hu : A.units + 4 < cLine)
    (h : ∀ (ts : List Addr) (ys : List (Key × Int)), ys.Perm ks → ys.Pairwise (fun a b => kle a.1 b.1 = true) → Paired (fun t q => IxP as ks (.ref t) q) ts ys → Q .none { s with heap := sortedHeap s.heap a (as.map Value.ref) (ts.map Value.ref).toArray }) :
    wpAny (model prog w) A (call (.builtin "list.sort") [.ref a]) Q E s := by
  have eR : PySem.W.EachIs (IxP as ks) (as.map Value.ref) ks := each_ix (by simpa using hl) fun j a b h1 h2 => by
    rw [List.getElem?_map] at h1
    obtain ⟨t, h3, rfl⟩ := Option.map_eq_some_iff.mp h1
    exact ⟨j, t, rfl, h3, h2⟩
  refine PySem.W.list_sort_data (enc := ienc) (R := IxP as ks) ho eR (eR.mono fun v q ⟨j, t, e, h1, h2⟩ => ⟨[], by rw [e]; exact (pr j t q h1 h2).reads fun _ _ z => z, by simp⟩) hok.alike (.inl fun d hd => ?_) (by rw [sizeLine_eq]; omega) (fun b _ => ?_) fun out ho hO => ?_
  · obtain ⟨b, _, rfl⟩ := List.mem_map.mp hd
    exact ⟨_, _, rfl⟩
  · have := ienc_depth b
    omega
  · obtain ⟨ts, rfl, q⟩ := each_refs hO fun v q ⟨_, t, e, _⟩ => ⟨t, e⟩
    exact h ts _ (List.mergeSort_perm _ _) (isorted hok) q
/-- sorted(the items' view) -/
theorem sorted_view {r d : Addr} {ep : Nat} {vs : List (Key × Value)} {ks : List (Key × Int)} {Q : Value → Shared → Prop} (hh : A.handled = none) (hv : s.heap.IsItemsView r d) (hm : s.heap.DictAt (mixKind prog w) d vs ep) (kv : KV (ks.map fun q => (q.1, V.int q.2)) vs)
    (hok : OneKind ks) (h4 : ks.length ≤ 4000) (hu : A.units + 8 < cLine)
    (hQ : ∀ (h' : Heap) (tk : Nat) (p : Addr) (as ts : List Addr) (ys : List (Key × Int)), (∀ b o, s.heap.get? b = some o → h'.get? b = some o) → r < p → (∃ n, h'.get? p = some (seqObj "list" (ts.map Value.ref).toArray n)) → as.Pairwise (· < ·) → (∀ t ∈ as, s.heap.objs.size < t ∧ t < p) → as.length = ks.length →
      (∀ (j : Nat) (t : Addr) (q : Key × Int), as[j]? = some t → ks[j]? = some q → PairAt h' t q) → ys.Perm ks → ys.Pairwise (fun a b => kle a.1 b.1 = true) → Paired (fun t q => IxP as ks (.ref t) q) ts ys → Q (.ref p) { s with heap := h', toks := tk }) :
    wpAny (model prog w) A (call (.builtin "sorted") [.ref r]) Q E s := by
  have lk' : ks.length = vs.length := by simpa using KV.length kv
  have hzl : vs.length ≤ sizeLine := by rw [← lk', sizeLine_eq]; omega
  refine Calls.call_function_entry kind_sorted plain_sorted entry_sorted (args_sorted1 _) ?_
  unfold Builtin.«sorted»
  refine wpAny_bind (m := checkCount "sorted" 1 1 _) (wpAny_pure ?_)
  refine wpAny_bind (PySem.W.kdx_collect (A := A.in1) (knd := mixKind prog w) (kvs := vs) (ep := ep) hh hv hm hzl fun h' tk as hk hl hG => ?_)
  have hal : (as.map Value.ref).length ≤ sizeLine := by rw [List.length_map, hl]; exact hzl
  have lak : as.length = ks.length := by omega
  have pr : ∀ (j : Nat) (t : Addr) (q : Key × Int), as[j]? = some t → ks[j]? = some q → PairAt h' t q := by
    intro j t q h1 h2
    obtain ⟨key, k, x, f1, f2, f3⟩ := hG.pairs j t h1
    have e2 : (ks.map fun q => (q.1, V.int q.2))[j]? = some (q.1, V.int q.2) := by rw [List.getElem?_map, h2]; rfl
    obtain ⟨qv, g1, g2, g3⟩ := LiI.paired_get kv e2
    rw [f1] at g1
    cases g1
    obtain ⟨t', rfl⟩ := (show ∃ t, x = Value.int q.2 t from g3)
    refine ⟨key, t', f3, ?_⟩
    rw [show q.1 = k from g2]
    exact relV_key (show keyIs k key = true from f2)
  refine wpAny_bind (wpAny_newList ?_ hal)
  have hoL : (h'.push (seqObj "list" (as.map Value.ref).toArray 0)).get? h'.objs.size = some (seqObj "list" (as.map Value.ref).toArray 0) := Heap.get?_push_size _ rfl
  refine wpAny_bind (wpAny_holding ?_)
  refine sort_pairs (A := A.in1) (s := ⟨h'.push (seqObj "list" (as.map Value.ref).toArray 0), s.gens, s.drawn, tk, s.os⟩) hoL lak (fun j t q h1 h2 => ?_) hok h4 (by show A.units + 1 + 4 < _; omega) fun ts ys y1 y2 y3 => ?_
  · obtain ⟨key, t', e1, e2⟩ := pr j t q h1 h2
    exact ⟨key, t', Heap.get?_push_of_some _ e1, e2⟩
  refine wpAny_pure ?_
  obtain ⟨c, hc⟩ := sortedHeap_at (vs := as.map Value.ref) (out := (ts.map Value.ref).toArray) hoL
  have keep : ∀ b o, h'.get? b = some o → (sortedHeap (h'.push (seqObj "list" (as.map Value.ref).toArray 0)) h'.objs.size (as.map Value.ref) (ts.map Value.ref).toArray).get? b = some o := fun b u e => by
    have hlt := Heap.lt_size e
    rw [sortedHeap_old (Nat.ne_of_lt hlt) (by rw [size_push']; exact Nat.lt_succ_of_lt hlt)]
    exact Heap.get?_push_of_some _ e
  refine ⟨_, rfl, hQ _ tk h'.objs.size as ts ys (fun b o e => keep b o (hk b o e)) ?_ ⟨c, hc⟩ hG.rise (fun t ht => ⟨hG.above t ht, hG.there ht⟩) lak (fun j t q h1 h2 => ?_) y1 y2 y3⟩
  · obtain ⟨o, ho, _⟩ := hv
    exact Heap.lt_size (hk _ _ ho)
  · obtain ⟨key, t', e1, e2⟩ := pr j t q h1 h2
    exact ⟨key, t', keep _ _ e1, e2⟩
end
section
variable {X : Cx} {e : Expr} {te : TE} {p apos cpos pos : Pos}
theorem ix_perm {as : List Addr} {ks ys : List (Key × Int)} {ts : List Addr} (h : Paired (fun t q => IxP as ks (.ref t) q) ts ys) : ∀ t ∈ ts, t ∈ as := fun t ht => by
  obtain ⟨j, q, e1, e2, j', t', e3, e4, e5⟩ := LiI.paired_ix h ht
  cases e3
  exact List.mem_of_getElem? e4
theorem pe_sortItems (hc : X.calm = true) (he : PE X e te) (hg : Gl X "sorted") (hm : X.mg "sorted" = none) (hu : X.A.units + 64 < cLine) (hbase : attributeBase e "items" X.env (eval e X.env) = eval e X.env := by rfl) (hline : (apos.endLine == cpos.line) = true := by rfl)
    (hs : starEach [.Call (.Attribute e "items" apos) [] [] cpos] X.env = (false, eval (.Call (.Attribute e "items" apos) [] [] cpos) X.env) :: starEach [] X.env := by rfl) :
    PE X (.Call (.Name "sorted" p) [.Call (.Attribute e "items" apos) [] [] cpos] [] pos) (tSortItems te) := by
  refine ⟨fun pins s σ H Q I hq => ?_⟩
  refine Call_ (ld_blt I hg hm (show bootBuiltins "sorted" = some (.builtin "sorted") by decide +kernel) ?_)
  refine PyProof.Rows.callWith_builtin1 (PyProof.Rows.args_cons ?_ hs) rfl rfl
  refine wpAny_Call_method (T := "dict") (id := "dict.items") hbase rfl hline F.plainAttrs_dict F.slot_dict_items F.type_dict_items (thn (he.run pins s σ H _ I hq) fun u s1 ⟨x, H1, I1, rx, d, ks, ex, hd, hok, h4, q⟩ => ?_)
  subst ex
  obtain rfl : u = Value.ref d := rx
  obtain ⟨hz, hs0, vs, kv, hdo⟩ := I1.hok d _ hd
  obtain ⟨ep, hat⟩ := hdo.dictAt
  refine ⟨hdo.typeIs, hdo.mapOf.noDict, ?_⟩
  show wpAny _ _ (callWith cpos (.builtin "dict.items") [.ref d] [] []) _ X.xe s1
  refine method_meetsIn F.slot_dict_items F.entry_dict_items rfl (PySem.evalArgs_none ⟨rfl, hdo.typeIs, F.args_dict_items_1 _, _, meets_dict_items (mixKind X.prog X.w) d hs0, ⟨vs, hdo⟩, ?_⟩)
  refine PyProof.Rows.args_nil ?_
  have hvw : (s1.heap.push { cls := .type "dict_items", data := .fields #[.ref d] }).IsItemsView s1.heap.objs.size d := ⟨_, Heap.get?_push_size _ rfl, rfl, rfl⟩
  refine sorted_view (s := { s1 with heap := s1.heap.push { cls := .type "dict_items", data := .fields #[.ref d] } }) (I1.ok.hd hc) hvw (hat.push _) kv hok h4 (by omega) fun h' tk p as ts ys hk hp hl rise ab la pr y1 y2 y3 => ?_
  have keep : ∀ b o, s1.heap.get? b = some o → h'.get? b = some o := fun b o e => hk b o (Heap.get?_push_of_some _ e)
  have hp' : s1.heap.objs.size < p := hp
  have zle : s1.heap.objs.size ≤ (s1.heap.push { cls := .type "dict_items", data := .fields #[.ref d] }).objs.size := by rw [Heap.size_push]; exact Nat.le_succ _
  have hn0 : H1 p = none := I1.hok.fresh (Nat.le_of_lt hp')
  have I2 : Inv X pins σ H1 { s1 with heap := h', toks := tk } := I1.kept (t' := tk) keep
  obtain ⟨n, hl⟩ := hl
  have lt : ts.length = ks.length := by
    have := Paired.length y3
    rw [this, y1.length_eq]
  have I3 : Inv X pins σ (upd H1 p (.lst (ts.map V.ref))) { s1 with heap := h', toks := tk } :=
    I2.take (h' := h') (t' := tk) (fun b ob _ e => e) (I1.fpOk (Nat.le_of_lt hp') hn0) ⟨by rw [List.length_map, sizeLine_eq]; omega, ts.map Value.ref, n, LiI.vals_refs ts, hl⟩
  have nd : as.Nodup := List.Pairwise.imp (fun h => Nat.ne_of_lt h) rise
  have low : ∀ t ∈ as, s1.heap.objs.size ≤ t ∧ t < p := fun t ht => ⟨Nat.le_of_lt (Nat.lt_of_le_of_lt zle (ab t ht).1), (ab t ht).2⟩
  obtain ⟨H2, I4, g, qt⟩ := DX.takeT (P := fun b vs => ∃ (j : Nat) (q : Key × Int), as[j]? = some b ∧ ks[j]? = some q ∧ vs = [kV q.1, .int q.2]) I1 as _ I3 nd fun b hb => by
    obtain ⟨j, hj⟩ := List.mem_iff_getElem?.mp hb
    obtain ⟨hb1, hb2⟩ := low b hb
    have hj2 : j < ks.length := by have := (List.getElem?_eq_some_iff.mp hj).1; omega
    obtain ⟨key, tk', e1, e2⟩ := pr j b ks[j] hj (by simp [hj2])
    refine ⟨hb1, by rw [upd_ne (Nat.ne_of_lt hb2)]; exact I1.hok.fresh hb1, _, ⟨j, ks[j], hj, by simp [hj2], rfl⟩, fun H3 => ⟨by rw [sizeLine_eq]; show 2 ≤ 16777216; omega, [key, .int (ks[j]).2 tk'], .cons e2 (.cons ⟨tk', rfl⟩ .nil), ⟨_, e1, rfl, 0, rfl⟩⟩⟩
  have gr : ∀ b o, H1 b = some o → H2 b = some o := fun b o e => g b o (by rw [upd_ne (ne_of_none e hn0)]; exact e)
  have ht := ix_perm y3
  refine ⟨.ref p, H2, I4, rfl, q ys H2 p ts y1 y2 gr hn0 (fun t z => I1.hok.fresh (low t (ht t z)).1) (fun z => Nat.lt_irrefl _ (low p (ht p z)).2) (g _ _ upd_same) (paired_imp y3 fun t q hm ⟨i, t', e, i1, i2⟩ => ?_)⟩
  cases e
  obtain ⟨vs, ⟨j, q', j1, j2, ev⟩, hH⟩ := qt t (List.mem_of_getElem? i1)
  have eij : i = j := (List.getElem?_inj (List.getElem?_eq_some_iff.mp i1).1 nd).mp (i1.trans j1.symm)
  subst eij
  have ee : q' = q := Option.some.inj (j2.symm.trans i2)
  rw [ev, ee] at hH
  exact hH
end
end B
/-! B: methods and classes called with keywords, keyword-only defaults -/
namespace B
open PySem L2 PySem.Spec PyProof.Rows
/-- how a def without defaults binds n values and the keywords ks -/
theorem kbn_mk {K : Fg} {x qual : Str} {st : Stmt} {f : Addr} {fd : FuncData} {ps : List Str} {n : Nat} {ks : List Str} {l : List Nat} (F : Fun K x qual st f fd)
    (h : ∀ (kV doc pm : Value) (an : Option Addr) (cdv ct : Value) (us ws : List Value), us.length = n → ws.length = ks.length → bindArgs (PySem.W.fnOf x qual (defArgs st) (defBody st) (defScope st) .none kV doc pm an cdv ct) ⟨us, ks.zip ws⟩ = pure (ps.zip (us ++ perm l ws))) :
    ∃ g, KBn K fd ps n ks g (fun vs zs => vs ++ perm l zs) := by
  obtain ⟨oc, od, kV, doc, pm, an, cdv, ct, osl, rfl, lk, hcd⟩ := F.ex
  exact ⟨fun us ws => us ++ perm l ws, ⟨fun s us ws _ h1 h2 => .of_eq (h kV doc pm an cdv ct us ws h1 h2), fun r1 r2 => r1.append (perm_rel l r2)⟩⟩
theorem fund_mk {K : Fg} {x qual : Str} {st : Stmt} {f D : Addr} {oc : Value} {od an : Option Addr} {osl : Array (Option Value)} {doc pm cdv ct : Value} {kws : List (Str × V)} (l : K.lookup f = some ⟨oc, od, .func (PySem.W.fnOf x qual (defArgs st) (defBody st) (defScope st) .none (.ref D) doc pm an cdv ct), osl⟩)
    (c : PySem.W.codeIn K cdv qual = true) (k : PySem.W.keepIn K (.ref f) = true) (hk : ∀ q ∈ kws, ∃ u, PySem.W.nsIn K D q.1 = some (some u) ∧ RelV q.2 u) :
    FunD K x qual (defArgs st) (defBody st) (defScope st) [] kws f (PySem.W.fnOf x qual (defArgs st) (defBody st) (defScope st) .none (.ref D) doc pm an cdv ct) :=
  ⟨⟨oc, od, .none, .ref D, doc, pm, an, cdv, ct, osl, rfl, l, c, .inl ⟨rfl, rfl⟩, .inr ⟨D, rfl, hk⟩⟩, k⟩
/-- .. and one with keyword-only defaults, those of ms lacking -/
theorem kbd_mk {K : Fg} {x qual : Str} {params : Arguments} {body : List Stmt} {scope : Scope} {f : Addr} {fd : FuncData} {ps : List Str} {n : Nat} {ks : List Str} {kws ms : List (Str × V)} {l : List Nat} (F : FunD K x qual params body scope [] kws f fd) (hk : kws ≠ []) (hms : ∀ q ∈ ms, q ∈ kws)
    (h : ∀ (D : Addr) (doc pm : Value) (an : Option Addr) (cdv ct : Value) (us mv ws : List Value), us.length = n → mv.length = ms.length → ws.length = ks.length →
      KwChain D ((ms.map (·.1)).zip mv) (bindArgs (PySem.W.fnOf x qual params body scope .none (.ref D) doc pm an cdv ct) ⟨us, ks.zip ws⟩) (ps.zip (us ++ perm l (ws ++ mv)))) :
    ∃ g, KBn K fd ps n ks g (fun vs zs => vs ++ perm l (zs ++ ms.map (·.2))) := by
  obtain ⟨mv, q⟩ := F.kbinds0 n ks ms (fun us mv ws => us ++ perm l (ws ++ mv)) hk hms (fun r1 r2 r3 => r1.append (perm_rel l (r3.append r2))) h
  exact ⟨_, q⟩
/-- o.m(e, .., k = v, ..) -/
def tMethN (C : Addr) (m : Str) (n j : Nat) (sp : Sp) (gV : List V → List V → List V) (E : XK) (to : TE) (t tk : TA) : TE := fun σ H Q => to σ H fun x H1 => ∃ a dx fs, x = .ref a ∧ H1 a = some (.ins C dx fs) ∧ fs.lookup m = none ∧
  t σ H1 fun vs H2 => tk σ H2 fun zs H3 => vs.length = n ∧ zs.length = j ∧ sp (gV (x :: vs) zs) H3 Q E
section
variable {X : Cx} {CX : CXT} {k n j : Nat} {f C : Addr} {fd : FuncData} {ps ks : List Str} {sp : Sp} {E : XK} {o e : Expr} {es : List Expr} {to : TE} {t tk : TA} {kws : List Keyword} {m : Str} {apos pos : Pos} {gV : List V → List V → List V}
theorem pe_methN0 {pl : Sem Bool} (he : PE X o to) (c : Cls X.K C) (hm : Meth X.K C m f) (F : FnOk X.prog X.w X.K X.mg X.base CX k f fd ps sp) (hr : Room k X.A) (hb : ∃ g, KBn X.K fd ps 1 ks g gV) (hx : Passes CX X E)
    (hkw : PK X kws tk) (hall : (backToKw pos (keywordEach kws X.env)).all (·.1.isSome) = true := by rfl) (hks : (backToKw pos (keywordEach kws X.env)).filterMap (·.1) = ks := by rfl)
    (hn : j = ks.length := by rfl) (hpl : ((backTo pos (starEach [] X.env)).any (·.1) || (backToKw pos (keywordEach kws X.env)).any (·.1.isNone)) = false := by rfl)
    (ht : eval (.Call (.Attribute o m apos) [] kws pos) X.env = (eval o X.env >>= fun ov => standAt apos.atName >>= fun _ => holding [ov] (getMethod ov m pl) >>= fun fx => callWith pos fx.1 fx.2 (backTo pos (starEach [] X.env)) (backToKw pos (keywordEach kws X.env))) := by rfl) :
    PE X (.Call (.Attribute o m apos) [] kws pos) (tMethN C m 0 j sp gV E to tNil tk) := by
  subst hn
  obtain ⟨g, hb⟩ := hb
  refine ⟨fun pins s σ H Q I h => PySem.W.methodCall_KW (pl := pl) (thn (he.run pins s σ H _ I h) fun u s1 ⟨x, H1, I1, rx, a, dx, fs, ex, ea, lk, q⟩ => ?_) ht⟩
  subst ex
  obtain rfl : u = Value.ref a := rx
  refine getmeth_ok I1 ea c hm lk (PySem.W.callWith_KW0 (first := [.ref a]) (h₀ := X.base) I.ok.mod.kin hm.kp hall (thn (hkw.run pos pins s1 σ H1 _ I1 q) fun ws s2 ⟨zs, H2, I2, rz, _, hl, q2⟩ => ⟨I2.kIn, ?_⟩) hpl)
  rw [hks]
  exact run_fnN (vs := [.ref a]) F hr hb hx I2 (.cons rfl .nil) rz rfl hl q2
theorem pe_methN {pl : Sem Bool} (he : PE X o to) (c : Cls X.K C) (hm : Meth X.K C m f) (F : FnOk X.prog X.w X.K X.mg X.base CX k f fd ps sp) (hr : Room k X.A) (hb : ∃ g, KBn X.K fd ps (n + 1) ks g gV) (hx : Passes CX X E) (ha : PA X (e :: es) t)
    (hkw : PK X kws tk) (hall : (backToKw pos (keywordEach kws X.env)).all (·.1.isSome) = true := by rfl) (hks : (backToKw pos (keywordEach kws X.env)).filterMap (·.1) = ks := by rfl)
    (hn : j = ks.length := by rfl) (hpl : ((backTo pos (starEach (e :: es) X.env)).any (·.1) || (backToKw pos (keywordEach kws X.env)).any (·.1.isNone)) = false := by rfl) (hs : starEach (e :: es) X.env = (false, eval e X.env) :: starEach es X.env := by rfl)
    (ht : eval (.Call (.Attribute o m apos) (e :: es) kws pos) X.env = (eval o X.env >>= fun ov => standAt apos.atName >>= fun _ => holding [ov] (getMethod ov m pl) >>= fun fx => callWith pos fx.1 fx.2 (backTo pos (starEach (e :: es) X.env)) (backToKw pos (keywordEach kws X.env))) := by rfl) :
    PE X (.Call (.Attribute o m apos) (e :: es) kws pos) (tMethN C m n j sp gV E to t tk) := by
  subst hn
  obtain ⟨g, hb⟩ := hb
  refine ⟨fun pins s σ H Q I h => PySem.W.methodCall_KW (pl := pl) (thn (he.run pins s σ H _ I h) fun u s1 ⟨x, H1, I1, rx, a, dx, fs, ex, ea, lk, q⟩ => ?_) ht⟩
  subst ex
  obtain rfl : u = Value.ref a := rx
  refine getmeth_ok I1 ea c hm lk (PySem.W.callWith_KW (first := [.ref a]) (h₀ := X.base) I.ok.mod.kin hm.kp hall (thn (ha.run pos pins s1 σ H1 _ I1 q) fun us s2 ⟨vs, H2, I2, r, q2⟩ => thn (hkw.run pos pins s2 σ H2 _ I2 q2) fun ws s3 ⟨zs, H3, I3, rz, l1, l2, q3⟩ => ⟨I3.kIn, ?_⟩) hpl hs)
  rw [hks]
  exact run_fnN (vs := .ref a :: vs) F hr hb hx I3 (.cons rfl r) rz (by rw [List.length_cons, l1]) l2 q3
theorem pe_makeKE {x : Str} {p : Pos} (M : Mk X.K C f) (F : FnOk X.prog X.w X.K X.mg X.base CX k f fd ps sp) (hr : Room (k + 1) X.A) (hg : Gl X x) (hm : X.mg x = some (.ref C)) (hb : ∃ g, KBn X.K fd ps 1 ks g gV) (hx : Passes CX X E) (hkw : PK X kws tk)
    (hall : (backToKw pos (keywordEach kws X.env)).all (·.1.isSome) = true := by rfl) (hks : (backToKw pos (keywordEach kws X.env)).filterMap (·.1) = ks := by rfl) (hdb : (x == ("__debug__" : Str)) = false := by decide) (hn : j = ks.length := by rfl)
    (hpl : ((backTo pos (starEach [] X.env)).any (·.1) || (backToKw pos (keywordEach kws X.env)).any (·.1.isNone)) = false := by rfl) : PE X (.Call (.Name x p) [] kws pos) (tMakeK C 0 j sp gV E tNil tk) := by
  subst hn
  obtain ⟨g, hb⟩ := hb
  exact pe_makeK0 M F hr hg hm hb hx hkw hall hks hdb hpl
end
end B
/-! B: promises kept where no repr is under way (the guards are known to be none), from the top on; repr of a list -/
namespace B
open PySem PySem.Spec PyProof.Rows L2
/-- the promise sp is kept by the def at f wherever no guard stands -/
structure FnG (P : Program) (w : World) (K : Fg) (mg : Str → Option Value) (base : Heap) (k : Nat) (f : Addr) (fd : FuncData) (ps : List Str) (sp : Sp) : Prop where
  ln : ∀ vs H Q E, sp vs H Q E → vs.length = ps.length
  go : ∀ {A : Around} {outer : List Env} {s : Shared} {H : Hp} {args : Args} {us : List Value} {vs : List V} {Q : VK} {E : XK}, A.guards = some [] → Room k A → Env0 P w K mg base A outer s H → BindsTo s fd args (ps.zip us) → Vals vs us → sp vs H Q E →
    codeAny (model P w) A (.call (.ref f) args) (CR CX0 outer P w H s Q E) s
section
variable {P : Program} {w : World} {K : Fg} {mg : Str → Option Value} {base : Heap}
/-- how a body's end is a call's end -/
theorem end_of {X : Cx} {Q : VK} {E : XK} {outer : List Env} {H : Hp} {s s' : Shared} {N : List Str} {qual : Str} {sc : Scope} {f : Addr} {cd : Value} {A : Around} {σ : L2.St} {H' : Hp} {v : V} {u : Value}
    (J : Inv (cxOf CX0 P w K mg base N qual sc f cd A outer s H E) [] σ H' s') (r : RelV v u) (q : Q v H') : CE outer P w H s Q u s' := ⟨v, H', J.os, J.bare, J.base, J.hok, r, q⟩
theorem okG {x qual : Str} {st : Stmt} {f : Addr} {fd : FuncData} {N ps : List Str} {k : Nat} {sp : Sp} (F : Fun K x qual st f fd) (S : FnScope N ps (defScope st)) (ln : ∀ vs H Q E, sp vs H Q E → vs.length = ps.length)
    (body : ∀ (cd : Value) (A : Around), A.guards = some [] → ∀ (outer : List Env) (s : Shared) (H : Hp) (vs : List V) (Q : VK) (E : XK), Room k (A.deeper (envOfC qual (defScope st) s.heap.objs.size f cd)) → sp vs H Q E →
      ∃ t, PSs (cxOf CX0 P w K mg base N qual (defScope st) f cd A outer s H E).nox (defBody st) t ∧ t { nx := fun _ H' => Q .non H', rt := Q } (start N vs) H) : FnG P w K mg base (k + 1) f fd ps sp := by
  obtain ⟨oc, od, kV, doc, pm, an, cd, ct, osl, rfl, lk, hcd⟩ := F.ex
  refine ⟨ln, fun {A outer s H args us vs Q E} hg hr e0 hb r h => ?_⟩
  have same : ∀ b o, base.get? b = some o → s.heap.get? b = some o := fun b o z => (e0.bs b o z).1
  have inK := e0.mod.kin.keeps same
  obtain ⟨t, ht, q⟩ := body cd A hg outer s H vs Q E (hr.deeper _) h
  refine codeAny_call_function hr.depth (inK _ _ lk) rfl S.co S.gen rfl (PySem.W.codeRec_of inK hcd) (hb _ _ _ _ (wpAny_newFunctionEnv_cells S.kind (fun y hy => ?_) fun env he s1 z => ?_))
  · obtain ⟨n, v⟩ := y
    exact (S.par n (List.of_mem_zip hy).1).imp id fun c => ⟨c, PySem.W.cellsFrom_some _ _ _ (.inl c)⟩
  · subst he
    refine ⟨(e0.mod.nolimit.keeps same).keeps z.toInCall.keep, codeAny_func (wpAny_mono (ht.nox.run [] s1 (start N vs) H _ (inv_start S hr.hd e0 (ln _ _ _ _ h) r z) q) (fun fl s' d => ?_) fun _ _ d => d)⟩
    cases fl with
    | ret u => obtain ⟨v, σ', H', J, rv, d⟩ := d; exact end_of (X := cxOf CX0 P w K mg base N qual (defScope st) f cd A outer s H E) J rv d
    | next => obtain ⟨σ', H', J, d⟩ := d; exact end_of (X := cxOf CX0 P w K mg base N qual (defScope st) f cd A outer s H E) (v := .non) J rfl d
    | brk => obtain ⟨_, _, _, d⟩ := d; exact d.elim
    | cont => obtain ⟨_, _, _, d⟩ := d; exact d.elim
end
section
variable {X : Cx} {k : Nat} {f : Addr} {fd : FuncData} {ps : List Str} {sp : Sp} {E : XK} {x : Str} {p pos : Pos} {e : Expr} {es : List Expr} {t : TA}
theorem pe_callG (F : FnG X.prog X.w X.K X.mg X.base k f fd ps sp) (gd : X.A.guards = some []) (hr : Room k X.A) (hg : Gl X x) (hm : X.mg x = some (.ref f)) (hk : PySem.W.keepIn X.K (.ref f) = true) (hb : Binds X.K fd ps []) (hx : Passes CX0 X E) (ha : PA X (e :: es) t)
    (hdb : (x == ("__debug__" : Str)) = false := by decide) (he : starEach (e :: es) X.env = (false, eval e X.env) :: starEach es X.env := by rfl) (hpl : (backTo pos (starEach es X.env)).any (·.1) = false := by rfl) :
    PE X (.Call (.Name x p) (e :: es) [] pos) (tCall sp [] E t) :=
  ⟨fun pins s σ H Q I h => wpAny_Call_Name_kw (ld_glob I hg hm (PySem.W.callWith_K (h₀ := X.base) I.ok.mod.kin hk (thn (ha.run pos pins s σ H _ I h) fun us s1 ⟨vs, H1, I1, r, q⟩ => ⟨I1.kIn, by
    have q' : sp vs H1 Q E := by have := q; simp only [List.append_nil] at this; exact this
    have hl : us.length = ps.length := r.length.symm.trans (F.ln _ _ _ _ q')
    have bd : BindsTo s1 fd ⟨us, []⟩ (ps.zip us) := by have := hb s1 us I1.kIn (by simpa using hl); simpa using this
    refine wpAny_call (codeAny_mono (F.go gd hr I1.env0 bd r q') fun r s' d => ?_)
    cases r with
    | error e => exact hx pins σ H1 s1 e s' I1 d
    | ok fl => cases fl <;> first | exact I1.after d | exact d.elim⟩) he hpl) hdb)⟩
end
/-! ### the top -/
/-- the abstract heap at the top: the script alone, and that only where it is none of the module's own things -/
def topH (K : Fg) (a : Addr) (o : Obj) (ns : List Int) : Hp := fun b => if b = a ∧ K.lookup a = none then some (.frz o (.lst (ns.map V.int))) else none
theorem topH_some {K : Fg} {a b : Addr} {o : Obj} {ns : List Int} {u : HO} (h : topH K a o ns b = some u) : b = a ∧ K.lookup a = none ∧ u = .frz o (.lst (ns.map V.int)) := by
  unfold topH at h
  split at h
  · rename_i c; exact ⟨c.1, c.2, (Option.some.inj h).symm⟩
  · cases h
theorem topH_none {K : Fg} {a b : Addr} {o : Obj} {ns : List Int} (h : ¬ (b = a ∧ K.lookup a = none)) : topH K a o ns b = none := if_neg h
section
variable {P : Program} {w : World} {K : Fg} {mg mb : Str → Option Value} {a fa : Addr} {s : Shared} {vs : List Value} {ns : List Int} {k : Nat} {fd : FuncData} {x : Str} {sp : Sp}
theorem top_seq (KX : K.In s.heap) (ha : s.heap.get? a = some { cls := .type "list", data := .seq vs.toArray }) (hi : IntsAre vs ns) (hl : ns.length ≤ sizeLine) : SqL K (topH K a { cls := .type "list", data := .seq vs.toArray } ns) a (ns.map V.int) := by
  cases e : K.lookup a with
  | none => exact .inl (.inr ⟨_, if_pos ⟨rfl, e⟩⟩)
  | some o =>
    have := (KX a o e).symm.trans ha
    cases this
    exact .inr ⟨_, vs.toArray, _, e, rfl, rfl, rfl, by rw [List.size_toArray, hi.length]; exact hl, by simpa using vals_ints hi⟩
theorem top_ok (ha : s.heap.get? a = some { cls := .type "list", data := .seq vs.toArray }) (hi : IntsAre vs ns) (hl : ns.length ≤ sizeLine) : HOk P w (topH K a { cls := .type "list", data := .seq vs.toArray } ns) s.heap := fun b u z => by
  obtain ⟨rfl, _, rfl⟩ := topH_some z
  exact ⟨ha, by rw [List.length_map]; exact hl, vs, _, vals_ints hi, ha⟩
theorem top_env (KX : K.In s.heap) (hns : s.heap.Ns mainGlobals mg) (hb : s.heap.Ns builtinsNs mb) (hbb : ∀ x : Str, x ≠ "__name__" → mb x = bootBuiltins x) (hlim : s.heap.NoLimit) (hg : s.gens = #[]) (ha : s.heap.get? a = some { cls := .type "list", data := .seq vs.toArray }) (hi : IntsAre vs ns) (hl : ns.length ≤ sizeLine) :
    K.In (hidT s.heap (topH K a { cls := .type "list", data := .seq vs.toArray } ns)) ∧ (hidT s.heap (topH K a { cls := .type "list", data := .seq vs.toArray } ns)).Ns mainGlobals mg ∧
      Env0 P w K mg (hidT s.heap (topH K a { cls := .type "list", data := .seq vs.toArray } ns)) callerA [] s (topH K a { cls := .type "list", data := .seq vs.toArray } ns) := by
  let H := topH K a { cls := .type "list", data := .seq vs.toArray } ns
  have stay : ∀ {b : Addr} {o : Obj}, s.heap.get? b = some o → (b = a → K.lookup a = none → False) → (hidT s.heap H).get? b = some o := fun z n => hidT_get z (topH_none fun c => n c.1 c.2)
  have ns' : ∀ {b : Addr} {m : Str → Option Value}, s.heap.Ns b m → (hidT s.heap H).Ns b m := fun {b m} z => by
    obtain ⟨o, es, ep, z1, z2, z3⟩ := z
    refine ⟨o, es, ep, stay z1 fun c _ => ?_, z2, z3⟩
    subst c
    rw [ha] at z1
    cases z1
    cases z2
  have kin : K.In (hidT s.heap H) := fun b o z => stay (KX b o z) fun c n => by subst c; rw [n] at z; cases z
  obtain ⟨mc, l1, l2⟩ := hlim
  exact ⟨kin, ns' hns, rfl, ⟨kin, ns' hns, ⟨mb, ns' hb, hbb⟩, mc, ns' l1, l2⟩, fun b o z => of_hidT z, Nat.le_of_eq (hidT_size _ _), trivial, fun b z => (nomatch z), top_ok ha hi hl, .of_eq hg⟩
theorem top_law (KX : K.In s.heap) (hns : s.heap.Ns mainGlobals mg) (hb : s.heap.Ns builtinsNs mb) (hbb : ∀ x : Str, x ≠ "__name__" → mb x = bootBuiltins x) (hlim : s.heap.NoLimit) (hg : s.gens = #[]) (ha : s.heap.get? a = some { cls := .type "list", data := .seq vs.toArray }) (hi : IntsAre vs ns) (hl : ns.length ≤ sizeLine)
    (hr : Room k callerA) (F : ∀ base : Heap, K.In base → base.Ns mainGlobals mg → FnG P w K mg base k fa fd [x] sp) (hbind : ∀ (s : Shared) (u : Value), BindsTo s fd ⟨[u], []⟩ [(x, u)])
    (hsp : ∀ H : Hp, Only H → SqL K H a (ns.map V.int) → sp [.ref a] H (fun v _ => v = .bl true) fun _ _ _ => False) :
    codeAny (model P w) callerA (.call (.ref fa) ⟨[.ref a], []⟩) (fun r s' => r = .ok (.ret (.bool true)) ∧ OldK s.heap s'.heap ∧ s'.os = s.os ∧ AllBare s'.gens) s := by
  obtain ⟨kin, hn, e0⟩ := top_env (P := P) (w := w) KX hns hb hbb hlim hg ha hi hl
  have only : Only (topH K a { cls := .type "list", data := .seq vs.toArray } ns) := fun b => by
    cases z : topH K a { cls := .type "list", data := .seq vs.toArray } ns b with
    | none => exact .inl rfl
    | some u => obtain ⟨_, _, rfl⟩ := topH_some z; exact .inr ⟨_, _, rfl⟩
  refine codeAny_mono ((F _ kin hn).go (us := [.ref a]) (vs := [.ref a]) rfl hr e0 (hbind s (.ref a)) (.cons rfl .nil) (hsp _ only (top_seq KX ha hi hl))) fun r s' d => ?_
  cases r with
  | error e => exact absurd d (by intro z; exact z.elim)
  | ok fl =>
    cases fl with
    | next => exact d.elim
    | brk => exact d.elim
    | cont => exact d.elim
    | ret u =>
      obtain ⟨v, H', hos, hbare, un, ok', rv, rfl⟩ := d
      cases (show u = Value.bool true from rv)
      refine ⟨rfl, OldK.of_keep fun b o z => ?_, hos, hbare⟩
      cases q : topH K a { cls := .type "list", data := .seq vs.toArray } ns b with
      | none => exact un.keep b o z q (fun c => nomatch c) (fun c => nomatch c)
      | some u =>
        obtain ⟨rfl, _, rfl⟩ := topH_some q
        have := (ok' _ _ (un.frzs _ _ _ q)).1
        rw [ha] at z
        cases z
        exact this
end
theorem walkG {l : PySem.W.OpenLaw} {n k : Nat} {q : Program} {loose : List Str} {XP : (Str → Option Value) → Heap → Prop} {YP : World → Heap → Prop} {d : DefRec} {K : Params → Fg} {sp : World → Sp} {x : Str} (hn : l.most = some n) (hn2 : n ≤ sizeLine) (hdf : d.params.defaults = []) (hr : Room k callerA)
    (hY : ∀ (w : World) (h : Heap), YP w h → (K w.params).In h)
    (F : ∀ (w : World) (mg : Str → Option Value) (fa : Addr) (h : Heap), (K w.params).In h → h.Ns mainGlobals mg → mg d.name = some (.ref fa) → ∃ fd : FuncData, (∀ (s : Shared) (u : Value), BindsTo s fd ⟨[u], []⟩ [(x, u)]) ∧
      ∀ base : Heap, (K w.params).In base → base.Ns mainGlobals mg → FnG l.prog w (K w.params) mg base k fa fd [x] (sp w))
    (hsp : ∀ (w : World) (H : Hp) (a : Addr) (ns : List Int), ns.length ≤ n → Only H → SqL (K w.params) H a (ns.map V.int) → sp w [.ref a] H (fun v _ => v = .bl true) fun _ _ _ => False) :
    PySem.W.WalkO q loose XP YP l.row.toRowW d [] (fun f vs => PySem.call f vs) :=
  Att.attach_call hn hdf fun w s₀ s₁ mg mb fa o pm cd doc a vs ns G Y ho hd hcd hmg hobj hints hlen hg => by
    obtain ⟨fd, hb, hF⟩ := F w mg fa _ (hY w _ Y) G.T.g hmg
    exact top_law (hY w _ Y) G.T.g G.T.b G.T.builtins G.T.nolimit hg hobj hints (Nat.le_trans hlen hn2) hr hF hb fun H hO hS => hsp w H a ns hlen hO hS
/-! ### repr(list) -/
def rRepr (K : Fg) : List V → Hp → VK → Prop := fun vs H Q => ∃ x d, vs = [x] ∧ Dp K H x (.list d) ∧ PyData.showableAll d = true ∧ PyData.hasDictAll d = false ∧ PyData.depthAll d ≤ 40 ∧ (listText (PyData.shownAll d)).length ≤ sizeLine ∧ Q (.str (listText (PyData.shownAll d))) H
section
variable {prog : Program} {w : World} {A : Around} {E : Value → Shared → Prop} {s : Shared}
theorem repr_list {v : Value} {d : List PyData} {az : List Addr} {Q : Value → Shared → Prop} (r : Reads s.heap v (.list d) az) (hs : PyData.showableAll d = true) (hd : PyData.hasDictAll d = false) (hg : A.guards = some []) (hu : A.units + 60 < cLine) (h40 : PyData.depthAll d ≤ 40) (hz : (listText (PyData.shownAll d)).length ≤ sizeLine)
    (hQ : ∀ h' u tk, (∀ b o, s.heap.get? b = some o → h'.get? b = some o) → Q (.str (listText (PyData.shownAll d)) u) { s with heap := h', toks := tk }) : wpAny (model prog w) A (call (.builtin "repr") [v]) Q E s := by
  have r0 := r
  cases r with
  | list h1 h2 h3 h4 =>
    rename_i a o vs n az'
    obtain ⟨bs, hb, hk⟩ := ReprAllK.of_readsAll (prog := prog) (w := w) h4 hs (fun hx => by rw [hd] at hx; cases hx) (fun t ht => Nat.le_trans (listText_mem_le ht) hz)
    have hna : a ∉ bs := not_mem_of_deeper r0 (by simp only [PyData.depth]; omega) hb
    have hTy : s.TypeIs (.ref a) "list" := ⟨o, h1, h2⟩
    refine Calls.call_function_entry F.kind_repr F.plain_repr F.entry_repr (F.args_repr1 _) ?_
    unfold Builtin.«repr»
    refine wpAny_bind (m := oneArg "repr" _) (wpAny_pure ?_)
    refine wpAny_bind (wpAny_cRoomFor (by show A.units + 1 < _; omega) ?_)
    refine wpAny_bind (wpAny_specialOf (name := Str.ofString "__repr__") hTy F.slot_list_repr.lookup ?_)
    have fin : ∀ h' u tk, (∀ b o, s.heap.get? b = some o → h'.get? b = some o) → wpAny (model prog w) A.in1 (isInstance (.str (listText (PyData.shownAll d)) u) (.type "str") >>= fun b => if b = true then ret (.str (listText (PyData.shownAll d)) u) else rule "repr.not-str" >>= fun _ => typeNameOf (.str (listText (PyData.shownAll d)) u) >>= fun nm => raiseError "TypeError" s!"__repr__ returned non-string (type {nm})")
        (fun fin s' => ∃ v, fin = .done (.ret v) ∧ Q v s') E { s with heap := h', toks := tk } := fun h' u tk hk =>
      wpAny_bind (wpAny_isInstance (T := "str") (b := true) rfl isSubtype_str_str (wpAny_pure ⟨_, rfl, hQ h' u tk hk⟩))
    obtain ⟨l⟩ := vs
    refine wpAny_bind (m := callSpecialIfBound? (.ref a) (Str.ofString "__repr__")) (wpAny_callSpecialIfBound?_slot (name := Str.ofString "__repr__") hTy F.slot_list_repr ?_)
    cases l with
    | nil =>
      have h4' : ReadsAll s.heap [] d _ := h4
      cases h4'
      exact call_list_repr_empty hTy h1 h3 (fin s.heap _ _ fun _ _ e => e)
    | cons x l =>
      exact call_list_reprK h1 h2 h3 hna (by simpa using hk.length_eq) (fun i y e => hk.item i y (by simpa using e)) (show A.in1.guards = some [] from hg) (fun b _ => Clear.nil b) (by show A.units + 1 + _ < _; omega) (fun _ _ e => e) (fun h' u tk hk' => fin h' u tk hk') hz
end
theorem cr_repr {X : Cx} (hg : X.A.guards = some []) (hu : X.A.units + 64 < cLine) : CallR X (.builtin "repr") (rRepr X.K) := by
  intro pins s σ H xs us Q I r h
  obtain ⟨x, d, rfl, hd, h1, h2, h3, h4, q⟩ := h
  obtain ⟨u, rfl, ru⟩ := vals1 r
  obtain ⟨az, rd⟩ := Dp.reads I _ _ _ hd ru
  exact repr_list rd h1 h2 hg (by omega) h3 h4 fun h' u tk hk => ⟨.str _, H, I.kept hk, ⟨_, rfl⟩, q⟩
end B
/-! B: dicts that change, told by any expression; dict comprehensions with tests; sorted keys -/
namespace B
open PySem L2
open PySem.W (Tup T3 T4 Datum DatumOrd)
open Evl (Ex)
section
variable {κ α : Type} [DecidableEq κ] [PyKey κ] [Py α] {K : Fg} {W W' : Wd} {d : Addr} {kv : List (κ × α)} {ε : Ef} {σ : SS} {te ty tv tx : TE}
/-- the dict at d holds kv, now and while ε is at work -/
def DStay {κ α : Type} [PyKey κ] [Py α] (ε : Ef) (K : Fg) (W : Wd) (d : Addr) (kv : List (κ × α)) : Prop := ∀ W', Stp ε W W' → ∃ ks, W'.H d = some (.dK ks) ∧ KReps K W'.B ks kv
theorem DMut.stay (m : DMut K W d kv) (hS : d ∉ ε.S) : DStay ε K W d kv := fun _ g => (m.s g hS).ex
theorem DMut.pur (m : DMut K W d kv) : DStay pur K W d kv := fun _ g => (m.gr g.pure).ex
theorem DictAt.stay {D : Dict κ α} (h : DictAt K W (.ref d) D) : DStay ε K W d D.kv := fun W' g => by
  obtain ⟨a, ks, e, _, h2, r⟩ := h.s g
  cases e
  exact ⟨ks, h2, r⟩
/-- d.get(k, x) -/
theorem ev_dget2E {k : κ} {x : α} (hd : EvR ε K te σ W (Raw.mk (.ref d))) (m : DStay ε K W d kv) (hk : EvP ε ty σ W (fun u _ => u = kV (PyKey.key k))) (hx : EvR ε K tx σ W x) : EvR ε K (tDGet2 te ty tx) σ W ((klook kv k).getD x) := fun W1 g1 Q q => hd W1 g1 _ fun v W1' g1' e => by
  obtain ⟨ks, e1, r⟩ := m _ (g1.trans g1')
  refine ⟨d, e, .inl ⟨ks, .inl e1⟩, hk W1' (g1.trans g1') _ fun u W2 g2 eu => hx W2 ((g1.trans g1').trans g2) _ fun w W3 g3 rw => ?_⟩
  obtain ⟨ks, e3, r⟩ := m _ (((g1.trans g1').trans g2).trans g3)
  rcases klk r k with ⟨h1, h2⟩ | ⟨y, v, h1, h2, h3⟩
  · exact ⟨none, .inl ⟨ks, _, .inl e3, eu, h2.symm⟩, q _ W3 ((g1'.trans g2).trans g3) (by rw [h1]; exact rw)⟩
  · exact ⟨some v, .inl ⟨ks, _, .inl e3, eu, h2.symm⟩, q _ W3 ((g1'.trans g2).trans g3) (by rw [h1]; exact h3)⟩
/-- d[k] -/
theorem ev_dgetE {k : κ} {x : α} (hd : EvR ε K te σ W (Raw.mk (.ref d))) (m : DStay ε K W d kv) (hk : EvP ε ty σ W (fun u _ => u = kV (PyKey.key k))) (hx : klook kv k = some x) : EvR ε K (tDGet te ty) σ W x := fun W1 g1 Q q => hd W1 g1 _ fun v W1' g1' e => hk W1' (g1.trans g1') _ fun u W2 g2 eu => by
  obtain ⟨ks, e3, r⟩ := m _ ((g1.trans g1').trans g2)
  obtain ⟨v, h1, h2⟩ := r.some hx
  exact ⟨d, v, e, .inl ⟨ks, _, .inl e3, eu, h1.symm⟩, q _ W2 (g1'.trans g2) h2⟩
/-- k in d -/
theorem ev_dinE {k : κ} (hd : EvR ε K te σ W (Raw.mk (.ref d))) (m : DStay ε K W d kv) (hk : EvP ε ty σ W (fun u _ => u = kV (PyKey.key k))) : EvR ε K (tDIn ty te) σ W (decide (k ∈ kv.map (·.1))) := fun W1 g1 Q q => hk W1 g1 _ fun u W2 g2 eu => hd W2 (g1.trans g2) _ fun v W3 g3 e => by
  obtain ⟨ks, e3, r⟩ := m _ ((g1.trans g2).trans g3)
  rcases klk r k with ⟨h1, h2⟩ | ⟨y, v, h1, h2, h3⟩
  · refine ⟨d, none, e, .inl ⟨ks, _, .inl e3, eu, h2.symm⟩, q _ W3 (g2.trans g3) ?_⟩
    show V.bl _ = V.bl _
    rw [decide_eq_false (klook_none.mp h1)]; rfl
  · refine ⟨d, some v, e, .inl ⟨ks, _, .inl e3, eu, h2.symm⟩, q _ W3 (g2.trans g3) ?_⟩
    show V.bl _ = V.bl _
    rw [decide_eq_true (List.mem_map.mpr ⟨_, klook_mem h1, rfl⟩)]; rfl
/-- len(d) -/
theorem ev_lenDE (hd : EvR ε K te σ W (Raw.mk (.ref d))) (m : DStay ε K W d kv) : EvR ε K (tCB rLenD (tCons te tNil)) σ W (kv.length : Int) := fun W1 g1 Q q => hd W1 g1 _ fun v W2 g2 e => by
  obtain ⟨ks, e3, r⟩ := m _ (g1.trans g2)
  refine ⟨d, ks, by rw [show v = V.ref d from e], e3, ?_⟩
  rw [KReps.len r]
  exact q _ W2 g2 rfl
/-- d[k] = v -/
theorem s_dputE {D : Ends} {k : κ} {x : α} (hd : EvR pur K te σ W (Raw.mk (.ref d))) (m : DMut K W d kv) (hv : EvR pur K tv σ W x) (hk : EvP pur ty σ W (fun u _ => u = kV (PyKey.key k))) (hl : kv.length < 100000)
    (q : ∀ W', Md [d] W W' → On W W' → DMut K W' d (kput kv k x) → D.nx σ W'.H) : sDPut te ty tv D σ W.H := hv W (.start trivial) _ fun v W1 g1 rv => hd W1 g1 _ fun v0 W1' g1' e0 => hk W1' (g1.trans g1') _ fun u W2 g2 e => by
  have g := ((g1.trans g1').trans g2).pure
  obtain ⟨ks, e1, r⟩ := (m.gr g).ex
  have b := (m.gr g).b
  exact ⟨d, _, e0, .inl ⟨ks, PyKey.key k, e1, e, by rw [KReps.len r]; exact Evl.sz_lt hl, rfl⟩, q (W2.put d _ b) ((Grow.s g).trans (md_put b)) (g.on.trans (md_put b).on) ⟨b, _, upd_same, KReps.put r k (rep_s (g1'.trans g2) rv)⟩⟩
theorem q_dputE {D : Ends} {tz : TS} {k : κ} {x : α} (hd : EvR pur K te σ W (Raw.mk (.ref d))) (m : DMut K W d kv) (hv : EvR pur K tv σ W x) (hk : EvP pur ty σ W (fun u _ => u = kV (PyKey.key k))) (hl : kv.length < 100000)
    (q : ∀ W', Md [d] W W' → On W W' → DMut K W' d (kput kv k x) → tz D σ W'.H) : tSeq (sDPut te ty tv) tz D σ W.H := s_dputE (D := { D with nx := tz D }) hd m hv hk hl q
/-- d.pop(k), the value left alone -/
theorem s_dpopE {D : Ends} {k : κ} {x : α} (hd : EvR pur K te σ W (Raw.mk (.ref d))) (m : DMut K W d kv) (hk : EvP pur ty σ W (fun u _ => u = kV (PyKey.key k))) (hx : klook kv k = some x)
    (q : ∀ W', Md [d] W W' → On W W' → DMut K W' d (kdrop kv k) → D.nx σ W'.H) : tDrop (tDPop1 te ty) D σ W.H := hd W (.start trivial) _ fun v0 W1 g1 e0 => by
  obtain ⟨ks, e1, r⟩ := (m.gr g1.pure).ex
  refine ⟨d, e0, .inl ⟨ks, .inl e1⟩, hk W1 g1 _ fun u W2 g2 e => ?_⟩
  have g := (g1.trans g2).pure
  obtain ⟨ks, e1, r⟩ := (m.gr g).ex
  have b := (m.gr g).b
  obtain ⟨v, h1, h2⟩ := r.some hx
  exact ⟨ks, PyKey.key k, v, e1, e, h1, q (W2.put d _ b) ((Grow.s g).trans (md_put b)) (g.on.trans (md_put b).on) ⟨b, _, upd_same, KReps.drop r k⟩⟩
/-- d, where it is a dict that stays -/
theorem DictAt.mut' {v : V} {κ α : Type} [PyKey κ] [Py α] {D : Dict κ α} (h : DictAt K W v D) : ∃ a ks, v = .ref a ∧ W.H a = some (.dK ks) ∧ KReps K W.B ks D.kv := by
  obtain ⟨a, ks, e, _, h2, r⟩ := h
  exact ⟨a, ks, e, h2, r⟩
end
section
variable {κ : Type} [DecidableEq κ] [PyKey κ] {K : Fg} {W : Wd} {d : Addr} {kv : List (κ × Int)} {ε : Ef} {σ : SS} {te : TE}
/-- sum(d.values()) -/
theorem ev_sumVE (hd : EvR ε K te σ W (Raw.mk (.ref d))) (m : DStay ε K W d kv) : EvR ε K (tCB rSumV (tCons (tVals te) tNil)) σ W (kv.map (·.2)).sum := fun W1 g1 Q k => hd W1 g1 _ fun v W2 g2 e => by
  obtain ⟨ks, e3, r⟩ := m _ (g1.trans g2)
  refine ⟨d, ks, e, e3, fun v hv => ?_⟩
  refine ⟨v, d, ks, kv.map (·.2), rfl, upd_same, by rw [upd_ne (fun z => by rw [z, hv] at e3; cases e3)]; exact e3, kreps_ints r, ?_⟩
  exact k _ (W2.put v (viewHO v d) (W2.free hv)) (g2.and (W2.grow_put hv)) rfl
/-- min(d.values()) -/
theorem ev_minVE {i : Int} (hd : EvR ε K te σ W (Raw.mk (.ref d))) (m : DStay ε K W d kv) (h1 : i ∈ kv.map (·.2)) (h2 : ∀ y ∈ kv.map (·.2), i ≤ y) : EvR ε K (tCB rMinV (tCons (tVals te) tNil)) σ W i := fun W1 g1 Q k => hd W1 g1 _ fun v W2 g2 e => by
  obtain ⟨ks, e3, r⟩ := m _ (g1.trans g2)
  refine ⟨d, ks, e, e3, fun v hv => ?_⟩
  refine ⟨v, d, ks, kv.map (·.2), rfl, upd_same, by rw [upd_ne (fun z => by rw [z, hv] at e3; cases e3)]; exact e3, kreps_ints r, List.length_pos_of_mem h1, fun m' h3 h4 => ?_⟩
  have : m' = i := Int.le_antisymm (h4 i h1) (h2 m' h3)
  rw [this]
  exact k _ (W2.put v (viewHO v d) (W2.free hv)) (g2.and (W2.grow_put hv)) rfl
end
section
variable {κ α : Type} [PyKV κ] [Py α] {K : Fg} {W : Wd} {d : Addr} {kv : List (κ × α)} {ε : Ef} {σ : SS} {te : TE}
theorem kreps_keys {H H' : Hp} {ks : List (Key × V)} {kv : List (κ × α)} (r : KReps K H ks kv) : Reps K H' (ks.map fun q => kV q.1) (kv.map (·.1)) := by
  induction r with
  | nil => exact .nil
  | @cons p q _ _ a b ih => exact .cons (by show Py.rep K H' (kV p.1) q.1; rw [a.1]; exact PyKV.krep _ _ _) ih
/-- list(d) -/
theorem ev_listDE (hd : EvR ε K te σ W (Raw.mk (.ref d))) (m : DStay ε K W d kv) : EvR ε K (tCB rListD (tCons te tNil)) σ W (kv.map (·.1)) := fun W1 g1 Q q => hd W1 g1 _ fun v W2 g2 e => by
  obtain ⟨ks, e3, r⟩ := m _ (g1.trans g2)
  exact ⟨d, ks, by rw [show v = V.ref d from e], e3, fun p hp => q _ (W2.add p _) (g2.and (W2.grow_add hp)) ⟨p, _, rfl, upd_same, kreps_keys r⟩⟩
end
/-! ### keys in order -/
def sle (a b : Str) : Bool := decide (a.cps.toList ≤ b.cps.toList)
theorem sle_trans {a b c : Str} (h : sle a b = true) (h' : sle b c = true) : sle a c = true := by
  simp only [sle, decide_eq_true_eq] at *
  exact List.le_trans h h'
theorem sle_total (a b : Str) : sle a b = true ∨ sle b a = true := by
  simp only [sle, decide_eq_true_eq]
  exact List.le_total _ _
theorem sle_anti {a b : Str} (h : sle a b = true) (h' : sle b a = true) : a = b := by
  simp only [sle, decide_eq_true_eq] at *
  have := List.le_antisymm h h'
  cases a with
  | mk x => cases b with
    | mk y => exact congrArg Str.mk (Array.toList_inj.mp this)
theorem rising_pw : ∀ (r : List Str) (p : Str), PyProof.Rows.risingS p r = true → (p :: r).Pairwise (fun a b => sle a b = true)
  | [], p, _ => by simp
  | x :: r, p, h => by
    simp only [PyProof.Rows.risingS, Bool.and_eq_true, Bool.not_eq_true'] at h
    have ih := rising_pw r x h.2
    rw [List.pairwise_cons]
    have px : sle p x = true := by
      have := h.1
      rw [PyProof.Rows.ltCps_eq] at this
      have := of_decide_eq_false this
      simp only [sle, decide_eq_true_eq]
      exact List.not_lt.mp this
    refine ⟨fun a ha => ?_, ih⟩
    rcases List.mem_cons.mp ha with rfl | ha
    · exact px
    · exact sle_trans px ((List.pairwise_cons.mp ih).1 a ha)
theorem sorted_pw {ys : List Str} (h : PyProof.Rows.sortedS ys = true) : ys.Pairwise (fun a b => sle a b = true) := by
  cases ys with
  | nil => exact .nil
  | cons x r => exact rising_pw r x h
theorem str_sorted_uniq {xs ys : List Str} (hp : xs.Perm ys) (h1 : xs.Pairwise (fun a b => sle a b = true)) (h2 : ys.Pairwise (fun a b => sle a b = true)) : xs = ys :=
  hp.eq_of_pairwise (fun a b _ _ h h' => sle_anti h h') h1 h2
def sortS (xs : List Str) : List Str := xs.mergeSort sle
theorem sortS_perm (xs : List Str) : (sortS xs).Perm xs := List.mergeSort_perm _ _
theorem sortS_pw (xs : List Str) : (sortS xs).Pairwise (fun a b => sle a b = true) := List.pairwise_mergeSort (le := sle) (fun _ _ _ => sle_trans) (fun a b => by rcases sle_total a b with h | h <;> simp [h]) xs
theorem sortS_eq {xs ys : List Str} (hp : ys.Perm xs) (h : ys.Pairwise (fun a b => sle a b = true)) : ys = sortS xs := str_sorted_uniq (hp.trans (sortS_perm xs).symm) h (sortS_pw xs)
abbrev rSortedDS : List V → Hp → VK → Prop := fun xs H Q => ∃ (a : Addr) (kvs : List (Key × V)) (ks : List Str), xs = [.ref a] ∧ Rd H a (.dK kvs) ∧ kvs.map (·.1) = ks.map Sum.inr ∧ ks.length < 64 ∧ ∀ ys p, ys.Perm ks → PyProof.Rows.sortedS ys = true → H p = none → Q (.ref p) (upd H p (.lst (ys.map V.str)))
abbrev rSortedDI : List V → Hp → VK → Prop := fun xs H Q => ∃ (a : Addr) (kvs : List (Key × V)) (ks : List Int), xs = [.ref a] ∧ Rd H a (.dK kvs) ∧ kvs.map (·.1) = ks.map Sum.inl ∧ ks.length < 64 ∧ ∀ (ys : List Int) (p : Addr), ys.Perm ks → ys.Pairwise (· ≤ ·) → H p = none → Q (.ref p) (upd H p (.lst (ys.map V.int)))
theorem cr_sortedDS {X : Cx} (hc : X.calm = true := by rfl) : CallR X (.builtin "sorted") rSortedDS := call_sortedD hc
theorem cr_sortedDI {X : Cx} (hc : X.calm = true := by rfl) : CallR X (.builtin "sorted") rSortedDI := call_sortedDI hc
section
variable {α : Type} [Py α] {K : Fg} {W : Wd} {d : Addr} {ε : Ef} {σ : SS} {te : TE}
theorem kreps_keysS {H : Hp} {ks : List (Key × V)} {kv : List (Str × α)} (r : KReps K H ks kv) : ks.map (·.1) = (kv.map (·.1)).map Sum.inr := by
  induction r with
  | nil => rfl
  | cons a b ih => rw [List.map_cons, List.map_cons, List.map_cons, ih, a.1]; rfl
theorem kreps_keysI {H : Hp} {ks : List (Key × V)} {kv : List (Int × α)} (r : KReps K H ks kv) : ks.map (·.1) = (kv.map (·.1)).map Sum.inl := by
  induction r with
  | nil => rfl
  | cons a b ih => rw [List.map_cons, List.map_cons, List.map_cons, ih, a.1]; rfl
/-- sorted(d) -/
theorem ev_sortedDS {kv : List (Str × α)} (hd : EvR ε K te σ W (⟨kv⟩ : Dict Str α)) (hl : kv.length < 64) : EvR ε K (tCB rSortedDS (tCons te tNil)) σ W (sortS (kv.map (·.1))) := fun W1 g1 Q k => hd W1 g1 _ fun v W2 g2 ⟨a, ks, e, rd, r⟩ =>
  ⟨a, ks, kv.map (·.1), by rw [e], W2.sub.rd rd, kreps_keysS r, by simpa using hl, fun ys p h1 h2 hp => by
    rw [sortS_eq h1 (sorted_pw h2)]
    exact k _ (W2.add p _) (g2.and (W2.grow_add hp)) ⟨p, _, rfl, upd_same, str_reps _⟩⟩
theorem ev_sortedDI {kv : List (Int × α)} {ys : List Int} (hd : EvR ε K te σ W (⟨kv⟩ : Dict Int α)) (hl : kv.length < 64) (hp : ys.Perm (kv.map (·.1))) (ho : ys.Pairwise (· ≤ ·)) : EvR ε K (tCB rSortedDI (tCons te tNil)) σ W ys := fun W1 g1 Q k => hd W1 g1 _ fun v W2 g2 ⟨a, ks, e, rd, r⟩ =>
  ⟨a, ks, kv.map (·.1), by rw [e], W2.sub.rd rd, kreps_keysI r, by simpa using hl, fun zs p h1 h2 hp0 => by
    have e2 : zs = ys := (h1.trans hp.symm).eq_of_pairwise (fun a b _ _ h h' => Int.le_antisymm h h') h2 ho
    subst e2
    exact k _ (W2.add p _) (g2.and (W2.grow_add hp0)) ⟨p, _, rfl, upd_same, int_reps _⟩⟩
end
end B
/-! B: new dicts that may change: comprehensions with targets and tests, also over a locked dict -/
namespace B
open PySem L2
open PySem.W (Tup T3 T4 Datum DatumOrd)
open Evl (Ex)
/-- a new dict that may change -/
def EvM {κ α : Type} [DecidableEq κ] [PyKey κ] [Py α] (ε : Ef) (K : Fg) (te : TE) (σ : SS) (W : Wd) (kv : List (κ × α)) : Prop :=
  ∀ W1, Stp ε W W1 → ∀ Q : VK, (∀ p W2, Stp ε W1 W2 → W1.H p = none → DMut K W2 p kv → Q (.ref p) W2.H) → te σ W1.H Q
def kfill {κ α : Type} [DecidableEq κ] (l : List (κ × α)) : List (κ × α) := l.foldl (fun kv e => kput kv e.1 e.2) []
theorem kput_new {κ α : Type} [DecidableEq κ] {kv : List (κ × α)} {k : κ} {v : α} (h : k ∉ kv.map (·.1)) : kput kv k v = kv ++ [(k, v)] := by
  unfold kput
  rw [if_neg]
  intro z
  obtain ⟨q, h1, h2⟩ := List.any_eq_true.mp z
  exact h (List.mem_map.mpr ⟨q, h1, of_decide_eq_true h2⟩)
theorem kfill_app {κ α : Type} [DecidableEq κ] : ∀ (l kv : List (κ × α)), ((kv ++ l).map (·.1)).Nodup → l.foldl (fun kv e => kput kv e.1 e.2) kv = kv ++ l
  | [], kv, _ => by simp
  | e :: l, kv, n => by
    have h : e.1 ∉ kv.map (·.1) := by
      rw [List.map_append, List.nodup_append] at n
      intro z
      exact n.2.2 _ z e.1 (by simp) rfl
    rw [List.foldl_cons, kput_new h, kfill_app l (kv ++ [(e.1, e.2)]) (by simpa using n)]
    simp
theorem kfill_id {κ α : Type} [DecidableEq κ] {l : List (κ × α)} (n : (l.map (·.1)).Nodup) : kfill l = l := kfill_app l [] (by simpa using n)
theorem kfill_len {κ α : Type} [DecidableEq κ] : ∀ (l kv : List (κ × α)), (l.foldl (fun kv e => kput kv e.1 e.2) kv).length ≤ kv.length + l.length
  | [], kv => by simp
  | e :: l, kv => by
    rw [List.foldl_cons]
    have := kfill_len l (kput kv e.1 e.2)
    have := kput_len kv e.1 e.2
    rw [List.length_cons]; omega
section
variable {α β κ : Type} [Py α] [Py β] [DecidableEq κ] [PyKey κ] {K : Fg} {W : Wd} {σ : SS} {ε : Ef} {te tk tv : TE} {tt : TT} {wi : TI} {tg : TG} {vs : List Nat}
theorem EvM.toD {kv : List (κ × α)} (h : EvM ε K te σ W kv) : EvD ε K te σ W (⟨kv⟩ : Dict κ α) := fun W1 g1 Q k => h W1 g1 Q fun p W2 g2 f m => by
  obtain ⟨ks, e, r⟩ := m.ex
  exact k _ (W2.fix p _ e) (g2.fix f g1.i e m.b) ⟨p, ks, rfl, upd_same, e, KReps.mono (exExt (ex_fix e m.b)) r⟩
theorem EvM.is {kv kv' : List (κ × α)} (h : EvM ε K te σ W kv) (e : kv = kv') : EvM ε K te σ W kv' := e ▸ h
theorem em_new : EvM ε K tDNewK σ W ([] : List (κ × α)) := fun W1 g1 Q k p hp => k p (W1.put p (.dK []) (W1.free hp)) (g1.rf.and (W1.grow_put hp)) hp (DMut.new W1 hp)
theorem s_asgM {D : Ends} {i : Nat} {kv : List (κ × α)} (h : EvM ε K te σ W kv) (s : ε.I W) (k : ∀ p W', Stp ε W W' → W.H p = none → DMut K W' p kv → D.nx (σ.set i (some (.ref p))) W'.H) : tAsg te (gName i) D σ W.H := h W (.start s) _ k
theorem q_asgM {D : Ends} {tz : TS} {i : Nat} {kv : List (κ × α)} (h : EvM ε K te σ W kv) (s : ε.I W) (k : ∀ p W', Stp ε W W' → W.H p = none → DMut K W' p kv → tz D (σ.set i (some (.ref p))) W'.H) : tSeq (tAsg te (gName i)) tz D σ W.H := h W (.start s) _ k
theorem s_retM {D : Ends} {kv : List (κ × α)} (h : EvM ε K te σ W kv) (s : ε.I W) (k : ∀ p W', Stp ε W W' → W.H p = none → DMut K W' p kv → D.rt (.ref p) W'.H) : tRet te D σ W.H := h W (.start s) _ k
/-- {k: v for x in .. if t} -/
theorem em_dc {xs : List α} {p : α → Bool} {f : α → κ × β} {P : α → SS → SS → Wd → Prop} (hi : EvI ε K wi σ W xs) (hg : GT K tg P) (hw : ∀ x σ2 W', P x (wipe σ vs) σ2 W' → wipe σ2 vs = wipe σ vs)
    (ht : ∀ x W' σ2, x ∈ xs → Stp ε W W' → P x (wipe σ vs) σ2 W' → EvT ε tt σ2 W' (p x))
    (hk : ∀ x W' σ2, x ∈ xs → p x = true → Stp ε W W' → P x (wipe σ vs) σ2 W' → EvP ε tk σ2 W' (fun u _ => u = kV (PyKey.key (f x).1)))
    (he : ∀ x W' σ2, x ∈ xs → p x = true → Stp ε W W' → P x (wipe σ vs) σ2 W' → EvR ε K tv σ2 W' (f x).2)
    (hP : ∀ x σ2 W' W'', P x (wipe σ vs) σ2 W' → Stp ε W' W'' → P x (wipe σ vs) σ2 W'') (hl : xs.length < 100000) : EvM ε K (tDc wi tg tt tk tv vs) σ W (kfill ((xs.filter p).map f)) := fun W1 g1 Q k =>
  hi W1 g1 _ fun J S W2 g2 s2 sg src D hD => by
    have DS : D ∉ ε.S := Ef.off g2.i hD
    have ln : ∀ i, (kfill (((xs.take i).filter p).map f)).length ≤ i := fun i => by
      have h1 := kfill_len (((xs.take i).filter p).map f) ([] : List (κ × β))
      have h2 := List.length_filter_le p (xs.take i)
      have h3 : (xs.take i).length ≤ i := by rw [List.length_take]; omega
      rw [List.length_map] at h1
      have h4 : ([] : List (κ × β)).length = 0 := rfl
      unfold kfill
      omega
    refine ⟨fun i m H => m = xs.length - i ∧ i ≤ xs.length ∧ ∃ Wi, Wi.H = H ∧ Stp ε W2 Wi ∧ DMut K Wi D (kfill (((xs.take i).filter p).map f)), ⟨xs.length, rfl, Nat.zero_le _, W2.put D (.dK []) (W2.free hD), rfl, ⟨md_mut (.refl _ _) (W2.free hD) hD, i_put DS g2.i _⟩, DMut.new W2 hD⟩, ?_⟩
    rintro i m H ⟨rfl, hle, Wi, rfl, gi, dm⟩
    have si : S Wi := sg _ _ s2 gi
    by_cases hlt : i < xs.length
    · refine .inr ⟨src.go i Wi si hlt, fun H => i + 1 ≤ xs.length ∧ ∃ Wi, Wi.H = H ∧ Stp ε W2 Wi ∧ DMut K Wi D (kfill (((xs.take (i + 1)).filter p).map f)), fun H' h' => ⟨_, by omega, rfl, h'⟩, fun v H'' hy => ?_⟩
      obtain ⟨x, W3, rfl, g3', hx, r⟩ := src.yld i Wi v H'' si hlt hy
      have g3 : Stp ε Wi W3 := gi.rf.and g3'
      have hm : x ∈ xs := List.mem_of_getElem? hx
      have tkk : xs.take (i + 1) = xs.take i ++ [x] := by rw [List.take_add_one, hx]; rfl
      refine hg x v W3 _ _ r fun σ2 hp => ⟨hw x σ2 W3 hp, ?_⟩
      have G3 := ((g1.trans g2).trans gi).trans g3
      refine ht x W3 σ2 hm G3 hp W3 g3.rf _ fun W4 g4 => ?_
      have G4 := G3.trans g4
      cases hpx : p x with
      | true =>
        rw [if_pos rfl]
        refine hk x W4 σ2 hm hpx G4 (hP x σ2 W3 W4 hp g4) W4 g4.rf _ fun u W5 g5 eu => ?_
        refine he x W5 σ2 hm hpx (G4.trans g5) (hP x σ2 W4 W5 (hP x σ2 W3 W4 hp g4) g5) W5 g5.rf _ fun w W6 g6 rw' => ?_
        have G6 : Stp ε Wi W6 := ((g3.trans g4).trans g5).trans g6
        obtain ⟨ks, e6, r6⟩ := (dm.s G6 DS).ex
        have b6 := (dm.s G6 DS).b
        have ef : kfill (((xs.take (i + 1)).filter p).map f) = kput (kfill (((xs.take i).filter p).map f)) (f x).1 (f x).2 := by
          rw [tkk, List.filter_append, List.map_append]
          simp only [List.filter_cons, hpx, if_pos, List.filter_nil, List.map_cons, List.map_nil]
          unfold kfill
          rw [List.foldl_append]; rfl
        refine ⟨ks, PyKey.key (f x).1, eu, e6, by rw [KReps.len r6]; exact Evl.sz_lt (by have := ln i; omega), hlt, W6.put D _ b6, rfl, ⟨md_mut (gi.trans G6).md b6 hD, i_put DS G6.i _⟩, ⟨b6, _, upd_same, ?_⟩⟩
        rw [ef]
        exact KReps.put r6 (f x).1 rw'
      | false =>
        rw [if_neg Bool.false_ne_true]
        have ef : kfill (((xs.take (i + 1)).filter p).map f) = kfill (((xs.take i).filter p).map f) := by
          rw [tkk, List.filter_append, List.map_append]
          simp only [List.filter_cons, hpx, List.filter_nil, List.map_nil, List.append_nil, if_neg Bool.false_ne_true]
        exact ⟨hlt, W4, rfl, (gi.trans g3).trans g4, by rw [ef]; exact dm.s (g3.trans g4) DS⟩
    · have e : i = xs.length := by omega
      subst e
      rw [List.take_length] at dm
      exact .inl ⟨src.stop _ Wi si (Nat.le_refl _), k D Wi (g2.trans gi) (by
        cases e : W1.H D with
        | none => rfl
        | some o => exact absurd hD (g2.md.d D (by rw [e]; exact fun z => by cases z))) dm⟩
theorem em_dcN {j : Nat} {xs : List α} {p : α → Bool} {f : α → κ × β} (hi : EvI ε K wi σ W xs) (ht : ∀ x v W', x ∈ xs → Stp ε W W' → rep K W'.B v x → EvT ε tt ((wipe σ [j]).set j (some v)) W' (p x))
    (hk : ∀ x v W', x ∈ xs → p x = true → Stp ε W W' → rep K W'.B v x → EvP ε tk ((wipe σ [j]).set j (some v)) W' (fun u _ => u = kV (PyKey.key (f x).1)))
    (he : ∀ x v W', x ∈ xs → p x = true → Stp ε W W' → rep K W'.B v x → EvR ε K tv ((wipe σ [j]).set j (some v)) W' (f x).2) (hl : xs.length < 100000) : EvM ε K (tDc wi (gName j) tt tk tv [j]) σ W (kfill ((xs.filter p).map f)) :=
  em_dc (P := PN K j) hi gt_name (fun x σ2 W' ⟨v, _, e⟩ => by rw [e]; exact wipe1) (fun x W' σ2 hm g ⟨v, r, e⟩ => by rw [e]; exact ht x v W' hm g r) (fun x W' σ2 hm hp g ⟨v, r, e⟩ => by rw [e]; exact hk x v W' hm hp g r)
    (fun x W' σ2 hm hp g ⟨v, r, e⟩ => by rw [e]; exact he x v W' hm hp g r) (fun x σ2 W' W'' ⟨v, r, e⟩ g => ⟨v, rep_s g r, e⟩) hl
end
section
variable {α γ β κ : Type} [Py α] [Py β] [Py γ] [DecidableEq κ] [PyKey κ] {K : Fg} {W : Wd} {σ : SS} {ε : Ef} {te tk tv : TE} {tt : TT} {wi : TI}
theorem em_dcP {i j : Nat} {xs : List (α × γ)} {p : α × γ → Bool} {f : α × γ → κ × β} (hi : EvI ε K wi σ W xs) (ht : ∀ x v u W', x ∈ xs → Stp ε W W' → rep K W'.B v x.1 → rep K W'.B u x.2 → EvT ε tt (((wipe σ [i, j]).set i (some v)).set j (some u)) W' (p x))
    (hk : ∀ x v u W', x ∈ xs → p x = true → Stp ε W W' → rep K W'.B v x.1 → rep K W'.B u x.2 → EvP ε tk (((wipe σ [i, j]).set i (some v)).set j (some u)) W' (fun u _ => u = kV (PyKey.key (f x).1)))
    (he : ∀ x v u W', x ∈ xs → p x = true → Stp ε W W' → rep K W'.B v x.1 → rep K W'.B u x.2 → EvR ε K tv (((wipe σ [i, j]).set i (some v)).set j (some u)) W' (f x).2) (hl : xs.length < 100000) : EvM ε K (tDc wi (gPair K i j) tt tk tv [i, j]) σ W (kfill ((xs.filter p).map f)) :=
  em_dc (P := PP K i j) hi gt_pair (fun x σ2 W' ⟨v, u, _, _, e⟩ => by rw [e]; exact wipe2) (fun x W' σ2 hm g ⟨v, u, r, r', e⟩ => by rw [e]; exact ht x v u W' hm g r r') (fun x W' σ2 hm hp g ⟨v, u, r, r', e⟩ => by rw [e]; exact hk x v u W' hm hp g r r')
    (fun x W' σ2 hm hp g ⟨v, u, r, r', e⟩ => by rw [e]; exact he x v u W' hm hp g r r') (fun x σ2 W' W'' ⟨v, u, r, r', e⟩ g => ⟨v, u, rep_s g r, rep_s g r', e⟩) hl
end
/-! ### a comprehension over a dict that is locked meanwhile -/
section
variable {κ α : Type} [DecidableEq κ] [PyKey κ] [Py α] {K : Fg} {W : Wd} {σ : SS} {t : TE}
/-- locked, and free again behind it -/
theorem em_lock {d : Addr} {ks : List (Key × V)} {kv : List (κ × α)} (hd : W.H d = some (.dK ks)) (h : ∀ WL, Lk W WL d ks → WL.B d = W.B d → EvM pur K t σ WL kv) : EvM pur K (tLockE t) σ W kv := fun W1 g1' Q k => by
  have g1 := g1'.pure
  have hd1 := g1.h _ _ hd
  have hnt : Nt W.H d := .k hd
  refine ⟨d, _, hd1, trivial, fun od => ?_⟩
  have sub : Ext W1.B (upd W1.H d (.frz od (.dK ks))) := B.Ext.trans W1.sub (B.Ext.lock hd1)
  let WL : Wd := ⟨W1.B, upd W1.H d (.frz od (.dK ks)), sub⟩
  have off : ∀ a, a ≠ d → WL.H a = W1.H a := fun a q => upd_ne q
  refine h WL ⟨g1.b, ⟨od, upd_same⟩, fun a o q e => (off a q).trans (g1.h a o e)⟩ (g1.m d hnt) WL (.start trivial) _ fun p W2 g2' f m => ?_
  have g2 := g2'.pure
  have h2 : W2.H d = some (.frz od (.dK ks)) := g2.h _ _ upd_same
  refine ⟨h2, ?_⟩
  have hB : W2.B d = W1.B d := g2.m d ⟨.frz od (.dK ks), upd_same, fun _ z => by cases z⟩
  have pd : p ≠ d := fun z => by
    have f' : upd W1.H d (.frz od (.dK ks)) p = none := f
    rw [z, upd_same] at f'; cases f'
  have sub3 : Ext W2.B (upd W2.H d (.dK ks)) := fun a o e => by
    by_cases q : a = d
    · subst q
      rw [hB] at e
      rcases W1.sub a o e with h1 | ⟨⟨k', rfl⟩, ob, h1⟩
      · rw [hd1] at h1; cases h1; exact .inl upd_same
      · rw [hd1] at h1; cases h1
    · rw [upd_ne q]; exact W2.sub a o e
  have gr : Grow W1 ⟨W2.B, upd W2.H d (.dK ks), sub3⟩ := .mk g2.b (fun a o e => by
    show upd W2.H d (.dK ks) a = some o
    by_cases q : a = d
    · subst q; rw [hd1] at e; cases e; exact upd_same
    · rw [upd_ne q]; exact g2.h a o ((off a q).trans e)) fun a ha => g2.m a (by
      by_cases q : a = d
      · rw [q]; exact ⟨_, upd_same, fun _ z => by cases z⟩
      · obtain ⟨u, e, hu⟩ := ha
        exact ⟨u, (off a q).trans e, hu⟩)
  obtain ⟨ks2, e2, r2⟩ := m.ex
  exact k p _ (.of gr) ((off p pd).symm.trans f) ⟨m.b, ks2, (upd_ne pd).trans e2, r2⟩
end
end B
/-! jars, plainly: what is in them and what they lost, by the program's own steps and by hand -/
namespace B
open PySem L2
abbrev Ins := List (Str × Int)
abbrev Lots := List (Int × Int)
section
variable {κ α : Type} [DecidableEq κ]
theorem keys_put_old {kv : List (κ × α)} {k : κ} {v : α} (h : k ∈ kv.map (·.1)) : (kput kv k v).map (·.1) = kv.map (·.1) := by
  unfold kput
  rw [if_pos (by obtain ⟨q, h1, h2⟩ := List.mem_map.mp h; exact List.any_eq_true.mpr ⟨q, h1, by simp [h2]⟩), List.map_map]
  refine List.map_congr_left fun q _ => ?_
  show (if q.1 = k then (q.1, v) else q).1 = q.1
  split <;> rfl
theorem kput_twice {kv : List (κ × α)} {k : κ} {v w : α} : kput (kput kv k v) k w = kput kv k w := by
  by_cases h : k ∈ kv.map (·.1)
  · have h' : k ∈ (kput kv k v).map (·.1) := by rw [keys_put_old h]; exact h
    have e : ∀ {l : List (κ × α)} {u : α}, k ∈ l.map (·.1) → kput l k u = l.map (fun q => if q.1 = k then (q.1, u) else q) := fun {l u} hl => by
      unfold kput
      rw [if_pos (by obtain ⟨q, h1, h2⟩ := List.mem_map.mp hl; exact List.any_eq_true.mpr ⟨q, h1, by simp [h2]⟩)]
    rw [e h', e h, e h, List.map_map]
    refine List.map_congr_left fun q _ => ?_
    show (if (if q.1 = k then (q.1, v) else q).1 = k then _ else _) = _
    by_cases z : q.1 = k <;> simp [z]
  · rw [kput_new h, kput_new h]
    have h' : k ∈ (kv ++ [(k, v)]).map (·.1) := by simp
    unfold kput
    rw [if_pos (by obtain ⟨q, h1, h2⟩ := List.mem_map.mp h'; exact List.any_eq_true.mpr ⟨q, h1, by simp [h2]⟩), List.map_append]
    have : kv.map (fun q => if q.1 = k then (q.1, w) else q) = kv := by
      conv => rhs; rw [← List.map_id kv]
      refine List.map_congr_left fun q hq => ?_
      have : ¬ q.1 = k := fun z => h (List.mem_map.mpr ⟨q, hq, z⟩)
      simp [this]
    rw [this]
    simp
theorem klook_put_same {kv : List (κ × α)} {k : κ} {v : α} : klook (kput kv k v) k = some v := by rw [klook_put]; simp
theorem mem_keys_put {kv : List (κ × α)} {k : κ} {v : α} : k ∈ (kput kv k v).map (·.1) := by
  cases e : klook (kput kv k v) k with
  | some x => exact List.mem_map.mpr ⟨_, klook_mem e, rfl⟩
  | none => rw [klook_put_same] at e; cases e
end
/-- m of each taken off -/
def off (ins : Ins) (m : Int) : Ins := (ins.filter fun q => decide (q.2 > m)).map fun q => (q.1, q.2 - m)
def addLot (lost : Lots) (size t : Int) : Lots := kput lost size ((klook lost size).getD 0 + t)
def Fits (n : Nat) (ins : Ins) (name : Str) : Prop := name ∈ ins.map (·.1) ∨ ins.length < n
instance (n : Nat) (ins : Ins) (name : Str) : Decidable (Fits n ins name) := inferInstanceAs (Decidable (_ ∨ _))
/-- one letter more, by hand -/
def one (n : Nat) (name : Str) (s : Ins × Lots) : Ins × Lots :=
  if Fits n s.1 name then (kput s.1 name ((klook s.1 name).getD 0 + 1), s.2) else (off s.1 1, addLot s.2 (n + 1) 1)
def least : Ins → Int
  | [] => 1
  | [q] => q.2
  | q :: r => min q.2 (least r)
theorem least_le : ∀ (ins : Ins) (q), q ∈ ins → least ins ≤ q.2
  | [q], p, h => by rw [List.mem_singleton.mp h]; exact Int.le_refl _
  | q :: r :: s, p, h => by
    show min q.2 (least (r :: s)) ≤ p.2
    rcases List.mem_cons.mp h with rfl | h
    · exact Int.min_le_left _ _
    · exact Int.le_trans (Int.min_le_right _ _) (least_le (r :: s) p h)
theorem least_mem : ∀ (ins : Ins), ins ≠ [] → ∃ q ∈ ins, q.2 = least ins
  | [], h => absurd rfl h
  | [q], _ => ⟨q, by simp, rfl⟩
  | q :: r :: s, _ => by
    obtain ⟨p, hp, e⟩ := least_mem (r :: s) (by simp)
    show ∃ z ∈ q :: r :: s, z.2 = min q.2 (least (r :: s))
    rcases Int.le_total q.2 (least (r :: s)) with h | h
    · exact ⟨q, by simp, (Int.min_eq_left h).symm⟩
    · exact ⟨p, List.mem_cons_of_mem _ hp, by rw [Int.min_eq_right h]; exact e⟩
structure InsOk (names : List Str) (n : Nat) (ins : Ins) : Prop where
  nd : (ins.map (·.1)).Nodup
  pos : ∀ q ∈ ins, 0 < q.2
  mem : ∀ q ∈ ins, q.1 ∈ names
  len : ins.length ≤ n
  n1 : 1 ≤ n
theorem InsOk.least_pos {names : List Str} {n : Nat} {ins : Ins} (h : InsOk names n ins) : 0 < least ins := by
  by_cases e : ins = []
  · rw [e]; decide
  · obtain ⟨q, hq, z⟩ := least_mem ins e
    rw [← z]; exact h.pos q hq
theorem off_len (ins : Ins) (m : Int) : (off ins m).length ≤ ins.length := by
  unfold off
  rw [List.length_map]; exact List.length_filter_le _ _
theorem off_keys (ins : Ins) (m : Int) : (off ins m).map (·.1) = (ins.filter fun q => decide (q.2 > m)).map (·.1) := by
  unfold off
  rw [List.map_map]; rfl
theorem off_ok {names : List Str} {n : Nat} {ins : Ins} (h : InsOk names n ins) (m : Int) : InsOk names n (off ins m) where
  nd := by rw [off_keys]; exact List.Nodup.sublist ((List.filter_sublist).map _) h.nd
  pos := fun q hq => by
    obtain ⟨p, hp, rfl⟩ := List.mem_map.mp hq
    have := of_decide_eq_true (List.mem_filter.mp hp).2
    show 0 < p.2 - m; omega
  mem := fun q hq => by
    obtain ⟨p, hp, rfl⟩ := List.mem_map.mp hq
    exact h.mem p (List.mem_filter.mp hp).1
  len := Nat.le_trans (off_len ins m) h.len
  n1 := h.n1
theorem put_ok {names : List Str} {n : Nat} {ins : Ins} {name : Str} {v : Int} (h : InsOk names n ins) (hn : name ∈ names) (hv : 0 < v) (hf : Fits n ins name) : InsOk names n (kput ins name v) where
  nd := kput_keys_nodup h.nd
  pos := fun q hq => by
    rcases kput_mem hq with z | rfl
    · exact h.pos q z
    · exact hv
  mem := fun q hq => by
    rcases kput_mem hq with z | rfl
    · exact h.mem q z
    · exact hn
  len := by
    rcases hf with z | z
    · have := congrArg List.length (keys_put_old (v := v) z)
      rw [List.length_map, List.length_map] at this
      rw [this]; exact h.len
    · have := kput_len ins name v
      omega
  n1 := h.n1
theorem look_pos {names : List Str} {n : Nat} {ins : Ins} {name : Str} (h : InsOk names n ins) : 0 ≤ (klook ins name).getD 0 := by
  cases e : klook ins name with
  | none => exact Int.le_refl _
  | some v => exact Int.le_of_lt (h.pos _ (klook_mem e))
theorem one_ok {names : List Str} {n : Nat} {name : Str} {s : Ins × Lots} (h : InsOk names n s.1) (hn : name ∈ names) : InsOk names n (one n name s).1 := by
  unfold one
  split
  · rename_i f
    have := look_pos (name := name) h
    exact put_ok h hn (by omega) f
  · exact off_ok h 1
theorem off_off (ins : Ins) {a b : Int} (hb : 0 ≤ b) : off (off ins a) b = off ins (a + b) := by
  unfold off
  rw [List.filter_map, List.map_map, List.filter_filter]
  have e : (ins.filter fun q => ((fun q : Str × Int => decide (q.2 > b)) ∘ fun q => (q.1, q.2 - a)) q && decide (q.2 > a)) = ins.filter fun q => decide (q.2 > a + b) := by
    refine List.filter_congr fun q _ => ?_
    show (decide (q.2 - a > b) && decide (q.2 > a)) = decide (q.2 > a + b)
    rw [← Bool.decide_and]
    exact decide_eq_decide.mpr ⟨fun h => by omega, fun h => by omega⟩
  rw [e]
  refine List.map_congr_left fun q _ => ?_
  show (q.1, q.2 - a - b) = (q.1, q.2 - (a + b))
  rw [Int.sub_sub]
theorem addLot_twice (lost : Lots) (size a b : Int) : addLot (addLot lost size a) size b = addLot lost size (a + b) := by
  unfold addLot
  rw [kput_twice, klook_put_same]
  show kput lost size (_ + a + b) = _
  rw [Int.add_assoc]
/-- j at once, or one by one: while all stay in -/
theorem one_many {names : List Str} {n : Nat} {name : Str} {ins : Ins} {lost : Lots} (h : InsOk names n ins) (hf : ¬ Fits n ins name) : ∀ j : Nat, 1 ≤ j → (j : Int) ≤ least ins → Nat.repeat (one n name) j (ins, lost) = (off ins j, addLot lost (n + 1) j)
  | 0, h0, _ => absurd h0 (by decide)
  | 1, _, _ => by
    show one n name (ins, lost) = _
    unfold one
    rw [if_neg hf]; rfl
  | j + 2, _, hl => by
    have ih := one_many (lost := lost) h hf (j + 1) (by omega) (by omega)
    show one n name (Nat.repeat (one n name) (j + 1) (ins, lost)) = _
    rw [ih]
    have all : (ins.filter fun q => decide (q.2 > ((j + 1 : Nat) : Int))) = ins := List.filter_eq_self.mpr fun q hq => by
      have := least_le ins q hq
      exact decide_eq_true (by omega)
    have hf' : ¬ Fits n (off ins ((j + 1 : Nat) : Int)) name := by
      intro z
      rcases z with z | z
      · rw [off_keys, all] at z; exact hf (.inl z)
      · unfold off at z
        rw [List.length_map, all] at z; exact hf (.inr z)
    unfold one
    rw [if_neg hf']
    show (off (off ins _) 1, addLot (addLot lost _ _) _ 1) = _
    rw [off_off ins (by decide), addLot_twice]
    congr 2
theorem repeat_add {α : Type} (f : α → α) : ∀ (a b : Nat) (x : α), Nat.repeat f (a + b) x = Nat.repeat f b (Nat.repeat f a x)
  | a, 0, x => rfl
  | a, b + 1, x => by
    show f (Nat.repeat f (a + b) x) = f (Nat.repeat f b (Nat.repeat f a x))
    rw [repeat_add f a b x]
/-- fitting, t at once -/
theorem one_fit {n : Nat} {name : Str} {ins : Ins} {lost : Lots} (hf : Fits n ins name) : ∀ t : Nat, 1 ≤ t → Nat.repeat (one n name) t (ins, lost) = (kput ins name ((klook ins name).getD 0 + t), lost)
  | 0, h => absurd h (by decide)
  | 1, _ => by
    show one n name (ins, lost) = _
    unfold one
    rw [if_pos hf]; rfl
  | t + 2, _ => by
    show one n name (Nat.repeat (one n name) (t + 1) (ins, lost)) = _
    rw [one_fit hf (t + 1) (by omega)]
    unfold one
    rw [if_pos (.inl mem_keys_put)]
    show (kput (kput ins name _) name _, lost) = _
    rw [kput_twice, klook_put_same]
    show (kput ins name ((klook ins name).getD 0 + ((t + 1 : Nat) : Int) + 1), lost) = _
    rw [show (klook ins name).getD 0 + ((t + 1 : Nat) : Int) + 1 = (klook ins name).getD 0 + ((t + 2 : Nat) : Int) by omega]
/-- what the program's loop does in a turn is so many by hand -/
theorem turn_fit {n : Nat} {name : Str} {ins : Ins} {lost : Lots} {left : Nat} (hf : Fits n ins name) (h : 1 ≤ left) : Nat.repeat (one n name) left (ins, lost) = (kput ins name ((klook ins name).getD 0 + left), lost) := one_fit hf left h
theorem turn_off {names : List Str} {n : Nat} {name : Str} {ins : Ins} {lost : Lots} {left m : Nat} (h : InsOk names n ins) (hf : ¬ Fits n ins name) (h1 : 1 ≤ m) (hm : (m : Int) ≤ least ins) (hl : m ≤ left) :
    Nat.repeat (one n name) left (ins, lost) = Nat.repeat (one n name) (left - m) (off ins m, addLot lost (n + 1) m) := by
  rw [← one_many h hf m h1 hm, ← repeat_add]
  congr 1
  omega
end B
/-! jars, plainly: in the order of keys; how great all is -/
namespace B
open PySem L2
open PySem.W (Datum)
section
variable {κ : Type} [DecidableEq κ]
/-- the pairs in the order of keys ks -/
def byKeys (kv : List (κ × Int)) (ks : List κ) : List (κ × Int) := ks.map fun k => (k, (klook kv k).getD 0)
theorem byKeys_keys (kv : List (κ × Int)) (ks : List κ) : (byKeys kv ks).map (·.1) = ks := by
  unfold byKeys
  rw [List.map_map]
  exact List.map_id ks
theorem byKeys_self {kv : List (κ × Int)} (n : (kv.map (·.1)).Nodup) : byKeys kv (kv.map (·.1)) = kv := by
  unfold byKeys
  rw [List.map_map]
  conv => rhs; rw [← List.map_id kv]
  refine List.map_congr_left fun q hq => ?_
  show (q.1, (klook kv q.1).getD 0) = q
  rw [klook_of_mem (v := q.2) n hq]; rfl
theorem byKeys_perm {kv : List (κ × Int)} {ks : List κ} (n : (kv.map (·.1)).Nodup) (h : ks.Perm (kv.map (·.1))) : (byKeys kv ks).Perm kv := by
  have := h.map fun k => (k, (klook kv k).getD 0)
  rw [show (kv.map (·.1)).map (fun k => (k, (klook kv k).getD 0)) = kv from byKeys_self n] at this
  exact this
theorem mem_key_eq {kv : List (κ × Int)} (n : (kv.map (·.1)).Nodup) {a b : κ × Int} (ha : a ∈ kv) (hb : b ∈ kv) (e : a.1 = b.1) : a = b := by
  have h1 := klook_of_mem (v := a.2) n ha
  have h2 := klook_of_mem (v := b.2) n hb
  rw [e, h2] at h1
  exact Prod.ext e (Option.some.inj h1).symm
/-- two lists of the same pairs, with unlike keys, both in the order of the keys -/
theorem pairs_uniq {le : κ → κ → Bool} (anti : ∀ a b, le a b = true → le b a = true → a = b) {kv xs ys : List (κ × Int)} (n : (kv.map (·.1)).Nodup) (h1 : xs.Perm kv) (h2 : ys.Perm kv) (o1 : xs.Pairwise fun a b => le a.1 b.1 = true) (o2 : ys.Pairwise fun a b => le a.1 b.1 = true) : xs = ys :=
  (h1.trans h2.symm).eq_of_pairwise (fun a b ha hb h h' => mem_key_eq n (h1.mem_iff.mp ha) (h2.mem_iff.mp hb) (anti _ _ h h')) o1 o2
end
def srt (kv : Ins) : Ins := byKeys kv (sortS (kv.map (·.1)))
theorem srt_perm {kv : Ins} (n : (kv.map (·.1)).Nodup) : (srt kv).Perm kv := byKeys_perm n (sortS_perm _)
theorem srt_pw (kv : Ins) : (srt kv).Pairwise fun a b => sle a.1 b.1 = true := by
  have := sortS_pw (kv.map (·.1))
  unfold srt byKeys
  rw [List.pairwise_map]
  exact this
theorem srt_uniq {kv ys : Ins} (n : (kv.map (·.1)).Nodup) (h : ys.Perm kv) (o : ys.Pairwise fun a b => sle a.1 b.1 = true) : ys = srt kv := pairs_uniq (fun _ _ => sle_anti) n h (srt_perm n) o (srt_pw kv)
def sortI (xs : List Int) : List Int := xs.mergeSort fun a b => decide (a ≤ b)
theorem sortI_perm (xs : List Int) : (sortI xs).Perm xs := List.mergeSort_perm _ _
theorem sortI_pw (xs : List Int) : (sortI xs).Pairwise (· ≤ ·) := by
  have := List.pairwise_mergeSort (le := fun a b : Int => decide (a ≤ b)) (fun a b c h h' => by simp only [decide_eq_true_eq] at *; omega) (fun a b => by simp only [Bool.or_eq_true, decide_eq_true_eq]; omega) xs
  exact this.imp fun h => of_decide_eq_true h
def srtI (kv : Lots) : Lots := byKeys kv (sortI (kv.map (·.1)))
theorem srtI_perm {kv : Lots} (n : (kv.map (·.1)).Nodup) : (srtI kv).Perm kv := byKeys_perm n (sortI_perm _)
theorem srtI_pw (kv : Lots) : (srtI kv).Pairwise fun a b => a.1 ≤ b.1 := by
  have := sortI_pw (kv.map (·.1))
  unfold srtI byKeys
  rw [List.pairwise_map]
  exact this
theorem srtI_uniq {kv ys : Lots} (n : (kv.map (·.1)).Nodup) (h : ys.Perm kv) (o : ys.Pairwise fun a b => a.1 ≤ b.1) : ys = srtI kv :=
  pairs_uniq (le := fun a b => decide (a ≤ b)) (fun a b h h' => by simp only [decide_eq_true_eq] at *; omega) n h (srtI_perm n) (o.imp fun h => decide_eq_true h) ((srtI_pw kv).imp fun h => decide_eq_true h)
/-- what was lost: sizes above n, nine at most, each once -/
structure LotsOk (n : Nat) (lost : Lots) : Prop where
  nd : (lost.map (·.1)).Nodup
  ok : ∀ q ∈ lost, (n : Int) < q.1 ∧ q.1 ≤ 9 ∧ 0 < q.2
theorem LotsOk.len {n : Nat} {lost : Lots} (h : LotsOk n lost) : lost.length ≤ 10 := by
  have := nodup_le (l := lost.map (·.1)) (m := rng 0 10) h.nd fun x hx => by
    obtain ⟨q, hq, rfl⟩ := List.mem_map.mp hx
    have := h.ok q hq
    exact rng_mem.mpr ⟨by omega, by omega⟩
  rw [List.length_map, rng_len] at this
  exact this
theorem lot_ok {n : Nat} {lost : Lots} {t : Int} (h : LotsOk n lost) (hn : n ≤ 8) (ht : 0 < t) : LotsOk n (addLot lost (n + 1) t) := by
  have h0 : 0 ≤ (klook lost ((n : Int) + 1)).getD 0 := by
    cases e : klook lost ((n : Int) + 1) with
    | none => exact Int.le_refl _
    | some v => exact Int.le_of_lt (h.ok _ (klook_mem e)).2.2
  refine ⟨kput_keys_nodup h.nd, fun q hq => ?_⟩
  rcases kput_mem hq with z | rfl
  · exact h.ok q z
  · exact ⟨by show (n : Int) < n + 1; omega, by show (n : Int) + 1 ≤ 9; omega, by show 0 < _ + t; omega⟩
theorem one_lots {n : Nat} {name : Str} {s : Ins × Lots} (h : LotsOk n s.2) (hn : n ≤ 8) : LotsOk n (one n name s).2 := by
  unfold one
  split
  · exact h
  · exact lot_ok h hn (by decide)
/-- nothing is above b -/
structure Small (b : Int) (s : Ins × Lots) : Prop where
  i : ∀ q ∈ s.1, q.2 ≤ b
  l : ∀ q ∈ s.2, q.2 ≤ b
theorem one_small {n : Nat} {name : Str} {b : Int} {s : Ins × Lots} (h : Small b s) (hb : 0 ≤ b) : Small (b + 1) (one n name s) := by
  unfold one
  split
  · refine ⟨fun q hq => ?_, fun q hq => Int.le_trans (h.l q hq) (by omega)⟩
    rcases kput_mem hq with z | rfl
    · exact Int.le_trans (h.i q z) (by omega)
    · show _ + 1 ≤ b + 1
      cases e : klook s.1 name with
      | none => show (0 : Int) + 1 ≤ b + 1; omega
      | some v => have := h.i _ (klook_mem e); show v + 1 ≤ b + 1; have : v ≤ b := this; omega
  · refine ⟨fun q hq => ?_, fun q hq => ?_⟩
    · obtain ⟨p, hp, rfl⟩ := List.mem_map.mp hq
      have := h.i p (List.mem_filter.mp hp).1
      show p.2 - 1 ≤ b + 1; omega
    · rcases kput_mem hq with z | rfl
      · exact Int.le_trans (h.l q z) (by omega)
      · show _ + 1 ≤ b + 1
        cases e : klook s.2 ((n : Int) + 1) with
        | none => show (0 : Int) + 1 ≤ b + 1; omega
        | some v => have := h.l _ (klook_mem e); show v + 1 ≤ b + 1; have : v ≤ b := this; omega
/-- all that is kept of jars -/
structure JOk (names : List Str) (n : Nat) (b : Int) (s : Ins × Lots) : Prop where
  i : InsOk names n s.1
  l : LotsOk n s.2
  s : Small b s
  n8 : n ≤ 8
  b0 : 0 ≤ b
theorem one_jok {names : List Str} {n : Nat} {b : Int} {name : Str} {s : Ins × Lots} (h : JOk names n b s) (hn : name ∈ names) : JOk names n (b + 1) (one n name s) :=
  ⟨one_ok h.i hn, one_lots h.l h.n8, one_small h.s h.b0, h.n8, by have := h.b0; omega⟩
theorem many_jok {names : List Str} {n : Nat} {b : Int} {name : Str} {s : Ins × Lots} (h : JOk names n b s) (hn : name ∈ names) : ∀ t : Nat, JOk names n (b + t) (Nat.repeat (one n name) t s)
  | 0 => by rw [show b + ((0 : Nat) : Int) = b by omega]; exact h
  | t + 1 => by
    have := one_jok (many_jok h hn t) hn
    rw [show b + (t : Int) + 1 = b + ((t + 1 : Nat) : Int) by omega] at this
    exact this
theorem JOk.up {names : List Str} {n : Nat} {b c : Int} {s : Ins × Lots} (h : JOk names n b s) (hc : b ≤ c) : JOk names n c s := ⟨h.i, h.l, ⟨fun q hq => Int.le_trans (h.s.i q hq) hc, fun q hq => Int.le_trans (h.s.l q hq) hc⟩, h.n8, by have := h.b0; omega⟩
theorem fresh_jok (names : List Str) {n : Nat} (h1 : 1 ≤ n) (h8 : n ≤ 8) : JOk names n 0 ([], []) :=
  ⟨⟨.nil, fun _ h => by simp at h, fun _ h => by simp at h, Nat.zero_le _, h1⟩, ⟨.nil, fun _ h => by simp at h⟩, ⟨fun _ h => by simp at h, fun _ h => by simp at h⟩, h8, Int.le_refl _⟩
/-- sums of what is small -/
theorem sum_small : ∀ (xs : List Int) (b : Int), (∀ x ∈ xs, 0 ≤ x ∧ x ≤ b) → 0 ≤ xs.sum ∧ xs.sum ≤ xs.length * b
  | [], b, _ => by simp
  | x :: xs, b, h => by
    have h1 := h x List.mem_cons_self
    have h2 := sum_small xs b fun y hy => h y (List.mem_cons_of_mem _ hy)
    rw [List.sum_cons, List.length_cons]
    refine ⟨by omega, ?_⟩
    have : ((xs.length + 1 : Nat) : Int) * b = xs.length * b + b := by
      rw [Int.natCast_add, Int.add_mul]; simp
    omega
theorem log_small {i : Int} (h0 : 0 ≤ i) (h : i ≤ 1000000000000) : i.natAbs.log2 < 1920 := by
  have : i.natAbs < 2 ^ 50 := by omega
  by_cases z : i.natAbs = 0
  · rw [z]; decide
  · have := (Nat.log2_lt z).mpr this
    omega
end B
/-! B: repr of a list that holds dicts -/
namespace B
open PySem PySem.Spec PyProof.Rows L2
open PySem.W (Tup T3 T4 Datum DatumOrd)
def keyD : Key → PyData
  | .inl i => .int i
  | .inr x => .str x
/-- data; a dict of numbers, by the heap -/
inductive DpD (K : Fg) (H : Hp) : V → PyData → Prop
  | pl {v : V} {d : PyData} : Dp K H v d → d.hasDict = false → DpD K H v d
  | dc {a : Addr} {kv : List (Key × Int)} : Rd H a (.dK (kv.map fun q => (q.1, V.int q.2))) → DpD K H (.ref a) (.dict (kv.map fun q => (keyD q.1, PyData.int q.2)))
inductive DpDs (K : Fg) (H : Hp) : List V → List PyData → Prop
  | nil : DpDs K H [] []
  | cons {v : V} {d : PyData} {vs : List V} {ds : List PyData} : DpD K H v d → DpDs K H vs ds → DpDs K H (v :: vs) (d :: ds)
section
variable {X : Cx} {pins : List (Addr × Obj)} {σ : L2.St} {H : Hp} {s : Shared}
theorem flat_keys {P : Program} {w : World} {h : Heap} {es : List DictEntry} : ∀ {kv : List (Key × Int)} {vs : List (Key × Value)}, KV (kv.map fun q => (q.1, V.int q.2)) vs → Pairs (mixKind P w) es vs → ReadsAll h (es.map (·.key)) ((kv.map fun q => (keyD q.1, PyData.int q.2)).map (·.1)) [] ∧ ReadsAll h (es.map (·.val)) ((kv.map fun q => (keyD q.1, PyData.int q.2)).map (·.2)) [] := by
  intro kv vs hv hp
  induction hp generalizing kv with
  | nil =>
    cases kv with
    | nil => exact ⟨.nil, .nil⟩
    | cons q kv => cases hv
  | @cons e p es vs hk he _ ih =>
    cases kv with
    | nil => cases hv
    | cons q kv =>
      cases hv with
      | cons h1 h2 =>
        obtain ⟨i1, i2⟩ := ih h2
        obtain ⟨e1, e2⟩ := h1
        have e1 : q.1 = p.1 := e1
        obtain ⟨t, e2⟩ : ∃ t, p.2 = .int q.2 t := e2
        have kd : Reads h e.key (keyD q.1) [] := by
          rw [← e1] at hk
          have hk : keyIs q.1 e.key = true := hk
          rcases keyIs_shape hk with ⟨i, u, e3, e4⟩ | ⟨x, u, e3, e4⟩
          · rw [e3, e4]; exact .int i u
          · rw [e3, e4]; exact .str x u
        have vd : Reads h e.val (PyData.int q.2) [] := by rw [he, e2]; exact .int _ _
        exact ⟨.cons (as := []) (bs := []) kd i1, .cons (as := []) (bs := []) vd i2⟩
theorem DpD.reads (I : Inv X pins σ H s) {v : V} {u : Value} {d : PyData} (h : DpD X.K H v d) (r : RelV v u) : ∃ as, Reads s.heap u d as ∧ (d.hasDict = true → sysModules ∉ as) := by
  cases h with
  | pl hd hn =>
    obtain ⟨as, rd⟩ := Dp.reads I _ _ _ hd r
    exact ⟨as, rd, fun z => by rw [hn] at z; cases z⟩
  | @dc a kv e =>
    obtain rfl : u = Value.ref _ := r
    obtain ⟨_, hsys, vs, kvr, o, es, ep, ho, ex, hd, _, pr, _⟩ := dk_rd I.hok e
    obtain ⟨k1, k2⟩ := flat_keys (h := s.heap) kvr pr
    refine ⟨_, Reads.dict ho ex.1 hd k1 k2, fun _ hm => ?_⟩
    have : sysModules = a := by simpa using hm
    rw [← this] at hsys
    simp at hsys
theorem DpD.repr (I : Inv X pins σ H s) {v : V} {u : Value} {d : PyData} (h : DpD X.K H v d) (r : RelV v u) (hs : d.showable = true) (hz : d.shown.length ≤ sizeLine) : ∃ as, Reads s.heap u d as ∧ ∃ bs, ReadAtMost s.heap d.depth bs ∧ ReprK X.prog X.w bs s.heap d.depth u d.shown := by
  obtain ⟨as, rd, hn⟩ := h.reads I r
  exact ⟨as, rd, ReprK.of_reads rd hs hn hz⟩
theorem DpDs.repr (I : Inv X pins σ H s) : ∀ {vs : List V} {us : List Value} {ds : List PyData}, DpDs X.K H vs ds → Vals vs us → PyData.showableAll ds = true → (∀ t ∈ PyData.shownAll ds, t.length ≤ sizeLine) →
    (∃ as, ReadsAll s.heap us ds as) ∧ ∃ bs, ReadAtMost s.heap (PyData.depthAll ds) bs ∧ ReprAllK X.prog X.w bs s.heap (PyData.depthAll ds) us (PyData.shownAll ds)
  | _, _, _, .nil, .nil, _, _ => ⟨⟨_, .nil⟩, [], (fun _ h => nomatch h), by simp only [PyData.shownAll]; exact .nil⟩
  | _, _, _, .cons (d := d) (ds := ds) h hs', .cons r rs, hs, hz => by
    have hs2 : d.showable = true ∧ PyData.showableAll ds = true := by simpa [PyData.showableAll] using hs
    obtain ⟨as, rd, b1, hb1, k1⟩ := h.repr I r hs2.1 (hz _ (by simp only [PyData.shownAll]; exact List.mem_cons_self ..))
    obtain ⟨⟨as2, rds⟩, b2, hb2, k2⟩ := DpDs.repr I hs' rs hs2.2 fun t ht => hz t (by simp only [PyData.shownAll]; exact List.mem_cons_of_mem _ ht)
    refine ⟨⟨_, .cons rd rds⟩, b1 ++ b2, fun b hm => ?_, ?_⟩
    · simp only [PyData.depthAll]
      rcases List.mem_append.mp hm with hm | hm
      · obtain ⟨d', as', r', hd'⟩ := hb1 b hm
        exact ⟨d', as', r', Nat.le_trans hd' (Nat.le_max_left _ _)⟩
      · obtain ⟨d', as', r', hd'⟩ := hb2 b hm
        exact ⟨d', as', r', Nat.le_trans hd' (Nat.le_max_right _ _)⟩
    · simp only [PyData.depthAll, PyData.shownAll]
      exact .cons ((k1.more fun b hb => List.mem_append_left _ hb).level_le (Nat.le_max_left _ _)) (k2.more_le (fun b hb => List.mem_append_right _ hb) (Nat.le_max_right _ _))
end
section
variable {prog : Program} {w : World} {A : Around} {E : Value → Shared → Prop} {s : Shared}
theorem repr_listD {a : Addr} {o : Obj} {vs : List Value} {n : _} {d : List PyData} {az bs : List Addr} {Q : Value → Shared → Prop} (h1 : s.heap.get? a = some o) (h2 : o.cls = .type "list") (h3 : o.data = .seq vs.toArray n) (r : ReadsAll s.heap vs d az) (hb : ReadAtMost s.heap (PyData.depthAll d) bs) (hk : ReprAllK prog w bs s.heap (PyData.depthAll d) vs (PyData.shownAll d))
    (hg : A.guards = some []) (hu : A.units + 60 < cLine) (h40 : PyData.depthAll d ≤ 40) (hz : (listText (PyData.shownAll d)).length ≤ sizeLine)
    (hQ : ∀ h' u tk, (∀ b o, s.heap.get? b = some o → h'.get? b = some o) → Q (.str (listText (PyData.shownAll d)) u) { s with heap := h', toks := tk }) : wpAny (model prog w) A (call (.builtin "repr") [.ref a]) Q E s := by
  have r0 : Reads s.heap (.ref a) (.list d) (a :: az) := .list h1 h2 h3 (by simpa using r)
  have hna : a ∉ bs := not_mem_of_deeper r0 (by simp only [PyData.depth]; omega) hb
  have hTy : s.TypeIs (.ref a) "list" := ⟨o, h1, h2⟩
  refine Calls.call_function_entry F.kind_repr F.plain_repr F.entry_repr (F.args_repr1 _) ?_
  unfold Builtin.«repr»
  refine wpAny_bind (m := oneArg "repr" _) (wpAny_pure ?_)
  refine wpAny_bind (wpAny_cRoomFor (by show A.units + 1 < _; omega) ?_)
  refine wpAny_bind (wpAny_specialOf (name := Str.ofString "__repr__") hTy F.slot_list_repr.lookup ?_)
  have fin : ∀ h' u tk, (∀ b o, s.heap.get? b = some o → h'.get? b = some o) → wpAny (model prog w) A.in1 (isInstance (.str (listText (PyData.shownAll d)) u) (.type "str") >>= fun b => if b = true then ret (.str (listText (PyData.shownAll d)) u) else rule "repr.not-str" >>= fun _ => typeNameOf (.str (listText (PyData.shownAll d)) u) >>= fun nm => raiseError "TypeError" s!"__repr__ returned non-string (type {nm})")
      (fun fin s' => ∃ v, fin = .done (.ret v) ∧ Q v s') E { s with heap := h', toks := tk } := fun h' u tk hk =>
    wpAny_bind (wpAny_isInstance (T := "str") (b := true) rfl isSubtype_str_str (wpAny_pure ⟨_, rfl, hQ h' u tk hk⟩))
  refine wpAny_bind (m := callSpecialIfBound? (.ref a) (Str.ofString "__repr__")) (wpAny_callSpecialIfBound?_slot (name := Str.ofString "__repr__") hTy F.slot_list_repr ?_)
  cases vs with
  | nil =>
    cases r
    exact call_list_repr_empty hTy h1 h3 (fin s.heap _ _ fun _ _ e => e)
  | cons x l =>
    exact call_list_reprK h1 h2 h3 hna (by simpa using hk.length_eq) (fun i y e => hk.item i y (by simpa using e)) (show A.in1.guards = some [] from hg) (fun b _ => Clear.nil b) (by show A.units + 1 + _ < _; omega) (fun _ _ e => e) (fun h' u tk hk' => fin h' u tk hk') hz
end
def rReprD (K : Fg) : List V → Hp → VK → Prop := fun vs H Q => ∃ (a : Addr) (xs : List V) (d : List PyData), vs = [.ref a] ∧ SqL K H a xs ∧ DpDs K H xs d ∧ PyData.showableAll d = true ∧ PyData.depthAll d ≤ 40 ∧ (listText (PyData.shownAll d)).length ≤ sizeLine ∧ Q (.str (listText (PyData.shownAll d))) H
theorem cr_reprD {X : Cx} (hg : X.A.guards = some []) (hu : X.A.units + 64 < cLine) : CallR X (.builtin "repr") (rReprD X.K) := by
  intro pins s σ H xs us Q I r h
  obtain ⟨a, ys, d, rfl, hl, hd, h1, h3, h4, q⟩ := h
  obtain ⟨u, rfl, ru⟩ := vals1 r
  obtain rfl : u = Value.ref a := ru
  obtain ⟨its, rv, ⟨o, n, ho, hc, _, hdat⟩, _⟩ := I.list hl
  obtain ⟨⟨az, ra⟩, bs, hb, hk⟩ := hd.repr I rv h1 fun t ht => Nat.le_trans (listText_mem_le ht) h4
  exact repr_listD ho hc hdat ra hb hk hg (by omega) h3 h4 fun h' u tk hk => ⟨.str _, H, I.kept hk, ⟨_, rfl⟩, q⟩
mutual
theorem dp_ext {K : Fg} {H H' : Hp} (e : Ext H H') : ∀ (d : PyData) (v : V), Dp K H v d → Dp K H' v d
  | .none, _, h => by cases h; exact .non
  | .bool b, _, h => by cases h; exact .bl b
  | .int i, _, h => by cases h; exact .int i
  | .str x, _, h => by cases h; exact .str x
  | .list ds, _, h => by
    cases h with
    | lst hs ha => exact .lst (e.l hs) (dps_ext e ds _ ha)
  | .tuple ds, _, h => by
    cases h with
    | tup hs ha => exact .tup (e.t hs) (dps_ext e ds _ ha)
  | .dict _, _, h => by cases h
theorem dps_ext {K : Fg} {H H' : Hp} (e : Ext H H') : ∀ (ds : List PyData) (vs : List V), DpAll K H vs ds → DpAll K H' vs ds
  | [], _, h => by cases h; exact .nil
  | d :: ds, _, h => by
    cases h with
    | cons h1 h2 => exact .cons (dp_ext e d _ h1) (dps_ext e ds _ h2)
end
def rReprV (K : Fg) : List V → Hp → VK → Prop := fun vs H Q => ∃ (v : V) (d : PyData), vs = [v] ∧ DpD K H v d ∧ d.showable = true ∧ d.depth ≤ 40 ∧ d.shown.length ≤ sizeLine ∧ Q (.str d.shown) H
theorem cr_reprV {X : Cx} (hg : X.A.guards = some []) (hu : X.A.units + 64 < cLine) : CallR X (.builtin "repr") (rReprV X.K) := by
  intro pins s σ H xs us Q I r h
  obtain ⟨v, d, rfl, hd, h1, h3, h4, q⟩ := h
  obtain ⟨u, rfl, ru⟩ := vals1 r
  obtain ⟨as, rd, hn⟩ := hd.reads I ru
  have fin : ∀ tk u, EP X pins σ Q (.str d.shown u) { s with toks := tk } := fun tk u => ⟨.str _, H, I.kept (t' := tk) fun _ _ z => z, ⟨_, rfl⟩, q⟩
  cases rd with
  | none => exact P.repr_of_none (fin _ _)
  | bool b => exact P.repr_of_bool (fin _ _)
  | int i t => exact P.repr_of_int (by simpa [PyData.showable] using h1) (fin _ _)
  | str x t => exact P.repr_of_str (fin _ _) h4
  | list a1 a2 a3 a4 => exact repr_of_reads' (.list a1 a2 a3 a4) h1 hn hg (by omega) (fun _ _ e => e) (fun h' u tk hk => ⟨.str _, H, I.kept hk, ⟨_, rfl⟩, q⟩) h4
  | tuple a1 a2 a3 a4 => exact repr_of_reads' (.tuple a1 a2 a3 a4) h1 hn hg (by omega) (fun _ _ e => e) (fun h' u tk hk => ⟨.str _, H, I.kept hk, ⟨_, rfl⟩, q⟩) h4
  | dict a1 a2 a3 a4 a5 => exact repr_of_reads' (.dict a1 a2 a3 a4 a5) h1 hn hg (by omega) (fun _ _ e => e) (fun h' u tk hk => ⟨.str _, H, I.kept hk, ⟨_, rfl⟩, q⟩) h4
/-- data of which some are new dicts -/
inductive DpW (K : Fg) (W : Wd) : V → PyData → Prop
  | pl {v : V} {d : PyData} : Dp K W.B v d → d.hasDict = false → DpW K W v d
  | st {c : Addr} {kv : List (Str × Int)} : DMut K W c kv → DpW K W (.ref c) (.dict (kv.map fun q => (PyData.str q.1, PyData.int q.2)))
  | it {c : Addr} {kv : List (Int × Int)} : DMut K W c kv → DpW K W (.ref c) (.dict (kv.map fun q => (PyData.int q.1, PyData.int q.2)))
section
variable {K : Fg} {W W' : Wd} {σ : SS} {te : TE} {ta : TA}
theorem kreps_flat {κ : Type} [DecidableEq κ] [PyKey κ] {B : Hp} : ∀ {ks : List (Key × V)} {kv : List (κ × Int)}, KReps K B ks kv → ks = kv.map fun q => (PyKey.key q.1, V.int q.2)
  | [], [], .nil => rfl
  | p :: ks, q :: kv, .cons h r => by
    obtain ⟨e1, e2⟩ := h
    have e2 : p.2 = V.int q.2 := e2
    rw [List.map_cons, ← kreps_flat r, ← e1, ← e2]
theorem DpW.gr {v : V} {d : PyData} (h : DpW K W v d) (g : Grow W W') : DpW K W' v d := by
  cases h with
  | pl h n => exact .pl (dp_ext (exExt g.b) _ _ h) n
  | st m => exact .st (m.gr g)
  | it m => exact .it (m.gr g)
theorem DpW.d {v : V} {d : PyData} (h : DpW K W v d) : DpD K W.H v d := by
  cases h with
  | pl h n => exact .pl (dp_ext W.sub _ _ h) n
  | @st c kv m =>
    obtain ⟨ks, e, r⟩ := m.ex
    rw [kreps_flat r] at e
    have := DpD.dc (K := K) (H := W.H) (a := c) (kv := kv.map fun q => ((Sum.inr q.1 : Key), q.2)) (.inl (by rw [e, List.map_map]; rfl))
    rw [List.map_map] at this
    exact this
  | @it c kv m =>
    obtain ⟨ks, e, r⟩ := m.ex
    rw [kreps_flat r] at e
    have := DpD.dc (K := K) (H := W.H) (a := c) (kv := kv.map fun q => ((Sum.inl q.1 : Key), q.2)) (.inl (by rw [e, List.map_map]; rfl))
    rw [List.map_map] at this
    exact this
/-- a row of such data is made -/
def EvDs (K : Fg) (ta : TA) (σ : SS) (W : Wd) (ds : List PyData) : Prop := ∀ W1, Stp pur W W1 → ∀ Q : List V → Hp → Prop, (∀ us W2, Stp pur W1 W2 → (∀ W3, Grow W2 W3 → DpDs K W3.H us ds) → us.length = ds.length → Q us W2.H) → ta σ W1.H Q
theorem eds_nil : EvDs K tNil σ W [] := fun W1 g1 Q k => k [] W1 g1.rf (fun _ _ => .nil) rfl
theorem eds_cons {d : PyData} {ds : List PyData} (h : EvP pur te σ W (fun v W' => DpW K W' v d)) (hr : EvDs K ta σ W ds) : EvDs K (tCons te ta) σ W (d :: ds) := fun W1 g1 Q k =>
  h W1 g1 _ fun v W2 g2 p => hr W2 (g1.trans g2) _ fun us W3 g3 ps l => k (v :: us) W3 (g2.trans g3) (fun W4 g4 => .cons (p.gr (g3.pure.trans g4)).d (ps W4 g4)) (by rw [List.length_cons, l, List.length_cons])
theorem ed_pl {α : Type} [DecidableEq α] [Datum α] [Py α] [PyD α] {x : α} (h : EvR pur K te σ W x) (hn : (Datum.toD x).hasDict = false) : EvP pur te σ W (fun v W' => DpW K W' v (Datum.toD x)) := fun W1 g1 Q k => h W1 g1 Q fun v W2 g2 r => k v W2 g2 (.pl (PyD.dp r) hn)
theorem ed_st {kv : List (Str × Int)} (h : EvM pur K te σ W kv) : EvP pur te σ W (fun v W' => DpW K W' v (.dict (kv.map fun q => (PyData.str q.1, PyData.int q.2)))) := fun W1 g1 Q k => h W1 g1 Q fun p W2 g2 _ m => k _ W2 g2 (.st m)
theorem ed_it {kv : List (Int × Int)} (h : EvM pur K te σ W kv) : EvP pur te σ W (fun v W' => DpW K W' v (.dict (kv.map fun q => (PyData.int q.1, PyData.int q.2)))) := fun W1 g1 Q k => h W1 g1 Q fun p W2 g2 _ m => k _ W2 g2 (.it m)
/-- repr([..]), dicts in it -/
theorem ev_reprD {ds : List PyData} (h : EvDs K ta σ W ds) (hs : PyData.showableAll ds = true) (hd : PyData.depthAll ds ≤ 40) (hl : (listText (PyData.shownAll ds)).length ≤ 100000) (hn : ds.length ≤ 100000) : EvR pur K (tCB (rReprD K) (tCons (tLst ta) tNil)) σ W (listText (PyData.shownAll ds)) := fun W1 g1 Q k => h W1 g1 _ fun us W2 g2 ps l =>
  ⟨by rw [l]; exact Evl.sz_of hn, fun p hp => by
    let W3 := W2.add p (.lst us)
    have g3 : Grow W2 W3 := W2.grow_add hp
    exact ⟨p, us, ds, rfl, SqL.of upd_same, ps W3 g3, hs, hd, Evl.sz_of hl, k _ W3 (g2.trans (.of g3)) rfl⟩⟩
end
end B
/-! B: classes of refusals, told by the top's names -/
namespace B
open PySem PySem.Spec PyProof.Rows L2
def cErr (K : Fg) (x : Str) : Addr := match PySem.W.nsIn K mainGlobals x with
  | some (some (.ref C)) => C
  | _ => 0
theorem cErr_of {K : Fg} {x : Str} {C : Addr} (h : PySem.W.nsIn K mainGlobals x = some (some (.ref C))) : cErr K x = C := by
  unfold cErr
  rw [h]
/-- str(n) -/
abbrev rStrI : List V → Hp → VK → Prop := fun xs H Q => ∃ i : Int, xs = [.int i] ∧ i.natAbs.log2 < 1920 ∧ Q (.str (toString i)) H
/-- a call in a def that lets out what it gets -/
theorem passE {X : Cx} {E : XK} (hs : X.stack = X.env :: X.outer) (hf : X.env.frame = some X.env.locals) (hex : X.ex = []) {E₁ : Value → Shared → Prop}
    (hx : X.xe = fun e s' => wpAny (model X.prog X.w) X.A (leaving X.env e) (fun _ s'' => L2.CX X.prog X.w X.outer X.H_0 X.s_0 E e s'') E₁ s') : Passes (L2.CX X.prog X.w) X E :=
  passes_call (takes_of hs hf hex hx) fun _ _ _ _ h => h
end B
/-! B: == and != of an own instance and a thing of any kind -/
namespace B
open PySem L2 PySem.Spec PyProof.Rows
section
variable {prog : Program} {w : World} {A : Around} {E : Value → Shared → Prop} {s : Shared} {K : Fg} {x C L f : Addr} {y : Value} {h₀ : Heap} {m : Str → Option Value} {ox : Obj} {od : Option Obj}
theorem ne_bodyA {Q : PySem.Fin → Shared → Prop} (X : K.In s.heap) (I : PySem.W.InstAt s.heap x ox C od) (hs : PySem.W.findIn K (.ref C) "__eq__" = some (some (.ref f))) (hf : PySem.W.isFn K (.ref f) = true) (hu : A.units < cLine)
    (h : wpAny (model prog w) A (call (.ref f) [.ref x, y]) (fun v s' => ∃ b, v = .bool b ∧ Q (.done (.ret (.bool (!b)))) s') E s) : wpAny (model prog w) A (Builtin.«object.__ne__» ⟨[.ref x, y], []⟩) Q E s := by
  unfold Builtin.«object.__ne__»
  repeat (first
    | with_reducible refine wpAny_cRoomFor hu ?_
    | (refine wpAny_bind (m := callSpecialIfBound? (.ref x) (Str.ofString "__eq__") [y]) (PySem.W.ifBound_K X I hs hf (wpAny_mono h (fun v s' hv => ?_) fun _ _ e => e)))
    | wp_step)
  obtain ⟨b, rfl, q⟩ := hv
  repeat (first | exact q | exact wpAny_pure q | exact wpAny_truthy_bool q | (refine wpAny_bind (m := truthy (.bool _)) (wpAny_truthy_bool ?_)) | wp_step)
end
section
variable {X : Cx} {CX : CXT} {k : Nat} {f C : Addr} {fd : FuncData} {ps : List Str} {sp : Sp} {E : XK}
/-- x == y, x an instance of the class at C, whose own __eq__ keeps the promise sp; y of any kind -/
def rInsEqA (K : Fg) (C : Addr) (sp : Sp) (E : XK) : R2 := fun x y H Q => ∃ a dx fs t, x = .ref a ∧ H a = some (.ins C dx fs) ∧ TyX K H y t ∧ PySem.W.notFirst K C t = true ∧ sp [x, y] H Q E
theorem op_insEqA (F : FnOk X.prog X.w X.K X.mg X.base CX k f fd ps sp) (hr : Room k X.A) (hm : Meth X.K C "__eq__" f) (hb : Binds X.K fd ps []) (hx : Passes CX X E) : OpR X (compareOp .Eq) (rInsEqA X.K C sp E) := by
  intro pins s σ H x y v u Q I rx ry h
  obtain ⟨a, dx, fs, t, rfl, ha, ty, hn, q⟩ := h
  cases (show v = Value.ref a from rx)
  obtain ⟨mA, J, _⟩ := ins_get I.hok ha
  obtain ⟨od, J, _⟩ := J.look
  obtain ⟨P, kx, hp, _⟩ := kit_of I ry ty
  obtain ⟨m, hF⟩ := I.fr
  show wpAny (model X.prog X.w) X.A (richCompare .Eq (.ref a) u) (EP X pins σ Q) X.xe s
  refine PySem.W.cmp_K (op := .Eq) (tb := t) hr.units0 hF I.ok.mod.kin J (kx.ty _ _ I.kIn hp) hn hm.at_ hm.fn ?_
  refine wpAny_mono (run_fn (us := [.ref a, u]) (vs := [.ref a, y]) (dvs := []) F hr hb .nil hx I (.cons rfl (.cons ry .nil)) q) (fun w s' z => ?_) fun _ _ x => x
  obtain ⟨z', H', I', rz, qz⟩ := z
  exact SlX.cmpback rz ⟨z', H', I', rz, qz⟩
/-- x != y -/
def rInsNeA (K : Fg) (C : Addr) (sp : Sp) (E : XK) : R2 := fun x y H Q => ∃ a dx fs t, x = .ref a ∧ H a = some (.ins C dx fs) ∧ TyX K H y t ∧ PySem.W.notFirst K C t = true ∧ sp [x, y] H (fun v H' => ∃ r, v = .bl r ∧ Q (.bl (!r)) H') E
theorem op_insNeA (F : FnOk X.prog X.w X.K X.mg X.base CX k f fd ps sp) (hr : Room (k + 1) X.A) (hm : Meth X.K C "__eq__" f) (hn : PySem.W.findIn X.K (.ref C) "__ne__" = some (some (.builtin "object.__ne__")))
    (ho : PySem.W.mroIn X.K C (.type "object") = some true) (hb : Binds X.K fd ps []) (hx : Passes CX X E) : OpR X (compareOp .NotEq) (rInsNeA X.K C sp E) := by
  intro pins s σ H x y v u Q I rx ry h
  obtain ⟨a, dx, fs, t, rfl, ha, ty, hnf, q⟩ := h
  cases (show v = Value.ref a from rx)
  obtain ⟨mA, J, _⟩ := ins_get I.hok ha
  obtain ⟨od, J, _⟩ := J.look
  obtain ⟨P, kx, hp, _⟩ := kit_of I ry ty
  obtain ⟨m, hF⟩ := I.fr
  have XK := I.kIn
  show wpAny (model X.prog X.w) X.A (richCompare .NotEq (.ref a) u) (EP X pins σ Q) X.xe s
  have own : wpAny (model X.prog X.w) X.A.in1 (call (.ref f) [.ref a, u]) (fun v s' => ∃ r, v = .bool r ∧ EP X pins σ Q (.bool (!r)) s') X.xe s := by
    have hl := F.len _ _ _ _ q
    have r2 : Vals [V.ref a, y] [Value.ref a, u] := .cons rfl (.cons ry .nil)
    refine wpAny_call (codeAny_mono (F.run X.A.in1 X.stack s H ⟨[.ref a, u], []⟩ [.ref a, u] [.ref a, y] _ E hr.in1 I.env0.in1 (by
      have := hb s [.ref a, u] I.kIn (by simpa using hl)
      simpa using this) r2 q) fun r s' hq => ?_)
    cases r with
    | error e => exact hx pins σ H s e s' I hq
    | ok fl =>
      cases fl with
      | ret w =>
        obtain ⟨z, H', I', rz, r, rfl, q'⟩ := I.after hq
        cases rz
        exact ⟨r, rfl, .bl (!r), H', I', rfl, q'⟩
      | next => exact False.elim hq
      | brk => exact False.elim hq
      | cont => exact False.elim hq
  have one : wpAny (model X.prog X.w) X.A (tryCompare (.ref a) "__ne__" u) (fun r s' => ∃ v, r = some v ∧ EP X pins σ Q v s') X.xe s := by
    unfold tryCompare
    refine wpAny_bind (ne_bound XK J hn (wpAny_call (codeAny_call_builtin PySem.F.cmp_object.ne.plain PySem.F.cmpEntry_ne (@PySem.W.check_slot (model X.prog X.w) _ _ s "object.__ne__" "object" "__ne__" (.ref a) [u] [] _ PySem.F.cmpKind_ne PySem.F.cmpSplit_ne
      (J.type.andThen (PySem.W.looks_mroIn XK ho)) (PySem.F.cmpArgs_ne _ _) ?_))))
    refine ne_bodyA (s := s) XK J hm.at_ hm.fn hr.in1.units0 (wpAny_mono own (fun v s' z => ?_) fun _ _ e => e)
    obtain ⟨r, rfl, z⟩ := z
    refine ⟨r, rfl, ?_⟩
    exact wpAny_pure ⟨_, rfl, z⟩
  unfold richCompare
  simp only [oneThing_ref]
  refine wpAny_holding (wpAny_bind (wpAny_cRoomFor hr.units0 ?_))
  refine wpAny_bind (J.type.here (wpAny_bind ((kx.ty _ _ I.kIn hp).here ?_)))
  split
  · rename_i q
    have e : PySem.W.subIn X.K t (.ref C) = some false := by
      rcases Bool.or_eq_true_iff.mp hnf with e | e
      · rw [beq_iff_eq.mp e] at q; simp at q
      · exact beq_iff_eq.mp e
    refine wpAny_bind ((PySem.W.looks_subIn XK e).here ?_)
    simp only [Bool.false_eq_true, if_false]
    refine wpAny_bind (wpAny_mono one (fun r s' z => ?_) fun _ _ e => e)
    obtain ⟨v, rfl, hq⟩ := z
    exact wpAny_pure hq
  · refine wpAny_bind (wpAny_pure ?_)
    simp only [Bool.false_eq_true, if_false]
    refine wpAny_bind (wpAny_mono one (fun r s' z => ?_) fun _ _ e => e)
    obtain ⟨v, rfl, hq⟩ := z
    exact wpAny_pure hq
end
end B
/-! B: data of any kind -/
namespace B
open PySem PySem.Spec PyProof.Rows L2
open PySem.W (Tup T3 T4 Datum DatumOrd)
mutual
theorem nd_plain : ∀ d : PyData, d.plain = true → d.hasDict = false
  | .none, _ => rfl
  | .bool _, _ => rfl
  | .int _, _ => rfl
  | .str _, _ => rfl
  | .list xs, h => by simp only [PyData.plain] at h; simp only [PyData.hasDict]; exact nd_plains xs h
  | .tuple xs, h => by simp only [PyData.plain] at h; simp only [PyData.hasDict]; exact nd_plains xs h
  | .dict _, h => by simp [PyData.plain] at h
theorem nd_plains : ∀ ds : List PyData, PyData.plainAll ds = true → PyData.hasDictAll ds = false
  | [], _ => by simp [PyData.hasDictAll]
  | d :: ds, h => by
    simp only [PyData.plainAll, Bool.and_eq_true] at h
    simp only [PyData.hasDictAll, nd_plain d h.1, nd_plains ds h.2, Bool.or_self]
end
theorem dpd_ext {K : Fg} {H H' : Hp} (e : Ext H H') {d : PyData} {v : V} (h : DpD K H v d) : DpD K H' v d := by
  cases h with
  | pl h n => exact .pl (dp_ext e _ _ h) n
  | dc h => exact .dc (e.rd h)
instance : Py PyData := ⟨fun K H v d => DpD K H v d, fun e h => dpd_ext e h⟩
section
variable {α : Type} [DecidableEq α] [Datum α] [Py α] [PyD α] {K : Fg} {W : Wd} {σ : SS} {ε : Ef} {te : TE}
theorem rep_dt {H : Hp} {v : V} {x : α} (h : rep K H v x) : rep K H v (Datum.toD x) := .pl (PyD.dp h) (nd_plain _ (Datum.plain x))
theorem ev_dt {x : α} (h : EvR ε K te σ W x) : EvR ε K te σ W (Datum.toD x) := fun W1 g1 Q k => h W1 g1 Q fun v W2 g2 r => k v W2 g2 (rep_dt r)
theorem ev_dd (h : EvD ε K te σ W (⟨[]⟩ : Dict Int Int)) : EvR ε K te σ W (PyData.dict []) := fun W1 g1 Q k => h.rep W1 g1 Q fun v W2 g2 ⟨a, ks, e, r, kr⟩ => k v W2 g2 (by
  cases kr
  subst e
  exact DpD.dc (kv := []) r)
end
def dcls : PyData → String
  | .int _ => "int" | .bool _ => "bool" | .none => "NoneType" | .str _ => "str" | .tuple _ => "tuple" | .list _ => "list" | .dict _ => "dict"
theorem ty_sql {K : Fg} {H : Hp} {a : Addr} {xs : List V} (h : SqL K H a xs) : TyX K H (.ref a) (.type "list") := by
  rcases h with (h | ⟨o, h⟩) | ⟨o, its, n, h1, h2, _⟩
  · exact .base (.lst h)
  · exact .base (.frz h)
  · exact .kList h1 h2
theorem ty_sqt {K : Fg} {H : Hp} {a : Addr} {xs : List V} (h : SqT K H a xs) : TyX K H (.ref a) (.type "tuple") := by
  rcases h with (h | ⟨o, h⟩) | ⟨o, its, n, h1, h2, _⟩
  · exact .base (.tup h)
  · exact .fTuple h
  · exact .kTuple h1 h2
theorem ty_dt {K : Fg} (W1 : Wd) (v : V) (d : PyData) (h : rep K W1.B v d) : TyX K W1.H v (.type (dcls d)) := by
  have h2 : DpD K W1.H v d := dpd_ext W1.sub h
  clear h
  cases h2 with
  | pl h _ =>
    cases h with
    | non => exact .base .non
    | bl b => exact .base (.bl b)
    | int i => exact .base (.int i)
    | str s => exact .base (.str s)
    | lst hs _ => exact ty_sql hs
    | tup hs _ => exact ty_sqt hs
  | dc h =>
    rcases h with z | ⟨o, z⟩
    · exact .base (.dK z)
    · exact .fDict z
theorem rc_isD {K : Fg} {c : String} {d : PyData} {b : Bool} (hk : kitB (dcls d) c = some b) : RC2 K (rIsi K) d (Raw.mk (.ty c)) b := rc_isi (fun W1 v h => ty_dt W1 v d h) hk
/-- that a thing is of no such kind -/
def KdNo (K : Fg) (c : String) (v : V) (W : Wd) : Prop := ∃ a : String, (∀ W', Grow W W' → TyX K W'.H v (.type a)) ∧ kitB a c = some false
theorem KdNo.gr {K : Fg} {c : String} {v : V} {W W' : Wd} (h : KdNo K c v W) (g : Grow W W') : KdNo K c v W' := by
  obtain ⟨a, h1, h2⟩ := h
  exact ⟨a, fun W2 g2 => h1 W2 (g.trans g2), h2⟩
theorem kdno_dt {K : Fg} {c : String} {v : V} {W : Wd} {d : PyData} (h : rep K W.B v d) (hk : kitB (dcls d) c = some false) : KdNo K c v W := ⟨_, fun W' g => ty_dt W' v d (rep_g g h), hk⟩
theorem ev_kdNo {K : Fg} {c : String} {v : V} {W : Wd} {σ : SS} {te : TE} (h : EvR pur K te σ W (Raw.mk v)) (n : KdNo K c v W) : EvR pur K (tCB (rIsi K) (tCons te (tCons (tC (.ty c)) tNil))) σ W false := fun W1 g1 Q k => h W1 g1 _ fun u W2 g2 e => by
  obtain ⟨a, h1, h2⟩ := n
  rw [show u = v from e]
  exact ⟨v, .ty c, .type a, .type c, false, rfl, .ty c, h1 W2 (g1.trans g2).pure, kit_ty h2, k _ W2 g2 rfl⟩
/-- that a thing is no instance of an own class -/
def KdOf (K : Fg) (C : Addr) (v : V) (W : Wd) : Prop := ∃ t : Value, (∀ W', Grow W W' → TyX K W'.H v t) ∧ PySem.W.kitOne K t (.ref C) = some false
theorem KdOf.gr {K : Fg} {C : Addr} {v : V} {W W' : Wd} (h : KdOf K C v W) (g : Grow W W') : KdOf K C v W' := by
  obtain ⟨t, h1, h2⟩ := h
  exact ⟨t, fun W2 g2 => h1 W2 (g.trans g2), h2⟩
theorem ev_kdOf {K : Fg} {C : Addr} {W : Wd} {σ : SS} {te : TE} {v : V} (h : EvR pur K te σ W (Raw.mk v)) (n : KdOf K C v W) : EvR pur K (tCB (rIsi K) (tCons te (tCons (tC (.ref C)) tNil))) σ W false := fun W1 g1 Q k => h W1 g1 _ fun u W2 g2 e => by
  obtain ⟨t, h1, h2⟩ := n
  rw [show u = v from e]
  exact ⟨v, .ref C, t, .ref C, false, rfl, .own C, h1 W2 (g1.trans g2).pure, h2, k _ W2 g2 rfl⟩
end B
/-! B: sorted(tuple of ints), xs[lo:hi:k] of a list, == of things that hold dicts, with any answer -/
namespace B
open PySem L2 PyProof.Rows
open PySem.W (Tup T3 T4 Datum DatumOrd)
open Evl (Ex)
def rSortedIT (K : Fg) : List V → Hp → VK → Prop := fun vs H Q => ∃ (a : Addr) (xs : List Int), vs = [V.ref a] ∧ SqT K H a (xs.map V.int) ∧ xs.length < 64 ∧ ∀ (ys : List Int) (p : Addr), ys.Perm xs → ys.Pairwise (· ≤ ·) → H p = none → Q (.ref p) (upd H p (.lst (ys.map V.int)))
theorem cr_sortedIT {X : Cx} : CallR X (.builtin "sorted") (rSortedIT X.K) := by
  intro pins s σ H vs us Q I r h
  obtain ⟨a, xs, rfl, hs, h64, q⟩ := h
  obtain ⟨its, rv, ⟨o, ho, hc, n, hd⟩, _⟩ := I.tuple hs
  rw [Vals.ref1 r]
  have hlen0 := rv.length
  rw [List.length_map] at hlen0
  have hS := rv.ints
  refine Calls.call_function_entry kind_sorted plain_sorted entry_sorted (args_sorted1 _) ?_
  unfold Builtin.«sorted»
  refine wpAny_bind (m := checkCount "sorted" 1 1 _) (wpAny_pure ?_)
  refine wpAny_bind (wpAny_collect_seq a (.inr rfl) ho hc hd (fun h' hk => ?_) (by rw [List.size_toArray, ← hlen0]; exact small64 h64))
  refine wpAny_bind (wpAny_newList ?_ (by show its.length ≤ _; rw [← hlen0]; exact small64 h64))
  have hoL : (h'.push (seqObj "list" its.toArray 0)).get? h'.objs.size = some (seqObj "list" its.toArray 0) := Heap.get?_push_size _ rfl
  have I1 : Inv X pins σ H { s with heap := h' } := I.kept (t' := s.toks) hk
  show wpAny _ _ _ _ _ { s with heap := h'.push (seqObj "list" its.toArray 0) }
  refine wpAny_bind (wpAny_holding (wpAny_call_entry slot_list_sort ⟨_, hoL, rfl⟩ entry_list_sort (list_sort_tree hoL hS (by rw [← hlen0]; exact h64) fun out ys h1 h2 h3 => ⟨_, rfl, ?_⟩) (args_list_sort _)))
  obtain ⟨e', he'⟩ := PyProof.Rows.sortedHeap_at (vs := its) (out := out) hoL
  have hlen : (ys.map V.int).length ≤ sizeLine := by rw [List.length_map, h2.length_eq]; exact small64 h64
  refine wpAny_pure ⟨_, rfl, .ref h'.objs.size, upd H h'.objs.size (.lst (ys.map V.int)), I1.laid (t' := s.toks) (fun b u e => ?_) (Nat.le_refl _) (show ObjOk X.prog X.w _ _ _ (.lst (ys.map V.int)) from ⟨hlen, out.toList, e', vals_of_ints h1, by rw [Array.toArray_toList]; exact he'⟩), rfl, q ys _ h2 h3 (I1.hok.fresh (Nat.le_refl _))⟩
  have hb : b < h'.objs.size := Heap.lt_size e
  show (sortedHeap _ _ _ out).get? b = _
  rw [PyProof.Rows.sortedHeap_old (Nat.ne_of_lt hb) (by rw [size_push']; exact Nat.lt_succ_of_lt hb)]
  exact Heap.get?_push_of_some _ e
theorem sortI_is {xs ys : List Int} (h1 : ys.Perm xs) (h2 : ys.Pairwise (· ≤ ·)) : ys = sortI xs := (h1.trans (sortI_perm _).symm).eq_of_pairwise (fun a b _ _ h h' => Int.le_antisymm h h') h2 (sortI_pw _)
section
variable {K : Fg} {W W' : Wd} {σ : SS} {ε : Ef} {te ta tb : TE}
theorem ev_sortIT {xs : Tup Int} (h : EvR ε K te σ W xs) (hl : xs.items.length < 64) : EvR ε K (tCB (rSortedIT K) (tCons te tNil)) σ W (sortI xs.items) := fun W1 g1 Q k => h W1 g1 _ fun v W2 g2 r => by
  obtain ⟨a, vs, e, hb, rr⟩ := rep_h r
  refine ⟨a, xs.items, by rw [e], SqT.of ?_, hl, fun ys p h1 h2 hp => ?_⟩
  · rw [← reps_int rr]; exact hb
  · rw [sortI_is h1 h2]
    exact k _ (W2.add p _) (g2.and (W2.grow_add hp)) ⟨p, _, rfl, upd_same, int_reps _⟩
theorem ev_sortIL {xs : List Int} (h : EvR ε K te σ W xs) : EvR ε K (tCB (rSortedI K) (tCons te tNil)) σ W (sortI xs) := fun W1 g1 Q k => h W1 g1 _ fun v W2 g2 r => by
  obtain ⟨a, vs, e, hb, rr⟩ := rep_h r
  refine ⟨a, xs, by rw [e], SqL.of ?_, fun ys p h1 h2 hp => ?_⟩
  · rw [← reps_int rr]; exact hb
  · rw [sortI_is h1 h2]
    exact k _ (W2.add p _) (g2.and (W2.grow_add hp)) ⟨p, _, rfl, upd_same, int_reps _⟩
end
/-! xs[lo:hi:k] of a list -/
def lsIx (lo hi : Option Int) (k : Int) (n : Nat) : List Nat := sliceRange (sliceBounds lo hi (some k) n).1 (sliceBounds lo hi (some k) n).2.1 (sliceBounds lo hi (some k) n).2.2
def pickL {α : Type} (lo hi : Option Int) (k : Int) (xs : List α) : List α := (lsIx lo hi k xs.length).filterMap fun m => xs[m]?
def tLstStep (K : PySem.W.Frag) (te : TE) (lo hi : Option Int) (k : Int) : TE := fun σ H Q => te σ H fun x H1 => ∃ a xs, x = .ref a ∧ SqL K H1 a xs ∧ ∀ p, H1 p = none → Q (.ref p) (upd H1 p (.lst (pickL lo hi k xs)))
theorem pickL_len {α : Type} (lo hi : Option Int) (k : Int) (xs : List α) : (pickL lo hi k xs).length ≤ xs.length := by
  have h := slicePick_size_le ((xs.map fun _ => Value.none).toArray) lo hi (some k)
  have e : (pickL lo hi k xs).length = (slicePick ((xs.map fun _ => Value.none).toArray) lo hi (some k)).size := by
    unfold slicePick pickL lsIx
    rw [List.size_toArray]
    simp only [List.size_toArray, List.length_map]
    generalize sliceRange _ _ _ = l
    induction l with
    | nil => rfl
    | cons m l ih =>
      cases hx : xs[m]? with
      | none => rw [List.filterMap_cons_none hx, List.filterMap_cons_none (by simp [hx])]; exact ih
      | some y => rw [List.filterMap_cons_some hx, List.filterMap_cons_some (b := Value.none) (by simp [hx])]; simp [ih]
  rw [e]
  simpa using h
theorem pe_lstStep {X : Cx} {e : Expr} {te : TE} {lo hi : Option Expr} {st : Expr} {ol oh : Option Int} {k : Int} {p3 pos : Pos} (he : PE X e te) (hl : BY.PCn X lo ol) (hh : BY.PCn X hi oh) (hk : BY.PCn X (some st) (some k)) (h0 : k ≠ 0) : PE X (.Subscript e (.Slice lo hi (some st) p3) pos) (tLstStep X.K te ol oh k) := by
  refine ⟨fun pins s σ H Q I h => ?_⟩
  refine Subscript_ (thn (he.run pins s σ H _ I h) fun v s1 ⟨x, H1, I1, r1, q1⟩ => ?_)
  obtain ⟨a, xs, ex, hx, q⟩ := q1
  subst ex
  cases r1
  refine wpAny_Slice (hl.run pins s1 σ H1 _ I1 fun vl pl s2 I2 => hh.run pins s2 σ H1 _ I2 fun vu pu s3 I3 => hk.run pins s3 σ H1 _ I3 fun vs ps s4 I4 => ?_)
  have I5 : Inv X pins σ H1 { s4 with heap := s4.heap.push { cls := .type "slice", data := .fields #[vl, vu, vs] } } := I4.kept (t' := s4.toks) fun b ob q => Heap.get?_push_of_some _ q
  obtain ⟨its, r, ht, hz⟩ := I5.list hx
  have hlen : its.toArray.size = xs.length := by rw [List.size_toArray]; exact r.length.symm
  show wpAny (model X.prog X.w) X.A (subscriptTail e (.Slice lo hi (some st) p3) (.ref a) (.ref s4.heap.objs.size)) (EP X pins σ Q) X.xe { s4 with heap := s4.heap.push { cls := .type "slice", data := .fields #[vl, vu, vs] } }
  refine tail_any (ops := [.ref a, .ref s4.heap.objs.size]) ht.isList.typeIs slot_list_getitem.lookup ?_ (by with_unfolding_all rfl)
  refine wpAny_getItem_list_slice ht.isList (Heap.IsSliceOf.new _ vl vu vs) pl pu ps (by simpa using h0) ?_ (by rw [hlen]; exact hz)
  refine ⟨.ref _, _, I5.laid (t' := s4.toks) (o := .lst (pickL ol oh k xs)) (fun b ob q => Heap.get?_push_of_some _ q) (Nat.le_refl _) ?_, rfl, q _ (I5.hok.fresh (Nat.le_refl _))⟩
  have e : slicePick its.toArray ol oh (some k) = ((lsIx ol oh k xs.length).filterMap fun m => its.toArray[m]?).toArray := by
    unfold slicePick lsIx
    rw [hlen]
  rw [e]
  exact ⟨Nat.le_trans (pickL_len _ _ _ _) hz, _, 0, BY.vals_pick r _, Heap.get?_push_size _ rfl⟩
theorem reps_pick {α : Type} [Py α] {K : Fg} {H : Hp} {us : List V} {xs : List α} (r : Reps K H us xs) : ∀ l : List Nat, Reps K H (l.filterMap fun m => us[m]?) (l.filterMap fun m => xs[m]?)
  | [] => .nil
  | m :: l => by
    have ih := reps_pick r l
    have hlen := Reps.len r
    by_cases h : m < xs.length
    · have hu : m < us.length := by omega
      rw [List.filterMap_cons_some (List.getElem?_eq_getElem hu), List.filterMap_cons_some (List.getElem?_eq_getElem h)]
      obtain ⟨v, h1, h2⟩ := Reps.get' r (List.getElem?_eq_getElem h)
      rw [List.getElem?_eq_getElem hu] at h1
      exact .cons (by rw [Option.some.inj h1]; exact h2) ih
    · rw [List.filterMap_cons_none (List.getElem?_eq_none (by omega)), List.filterMap_cons_none (List.getElem?_eq_none (by omega))]
      exact ih
theorem ev_lstStep {α : Type} [Py α] {K : Fg} {W : Wd} {σ : SS} {ε : Ef} {te : TE} {xs : List α} {lo hi : Option Int} {k : Int} (h : EvR ε K te σ W xs) : EvR ε K (tLstStep K te lo hi k) σ W (pickL lo hi k xs) := fun W1 g1 Q q => h W1 g1 _ fun v W2 g2 r => by
  obtain ⟨a, vs, e, hb, rr⟩ := r
  have hb' : W2.H a = some (.lst vs) := (W2.sub _ _ hb).elim id fun z => by
    obtain ⟨⟨_, z⟩, _⟩ := z
    cases z
  have hl : vs.length = xs.length := Reps.len rr
  refine ⟨a, vs, e, SqL.of hb', fun p hp => ?_⟩
  refine q _ (W2.add p _) (g2.and (W2.grow_add hp)) ⟨p, _, rfl, upd_same, ?_⟩
  unfold pickL
  rw [hl]
  exact reps_pick (Reps.mono (exExt (W2.grow_add hp).b) rr) _
end B
/-! == of tuples within one model -/
namespace PySem.SeqAt
open AutoSeq1 (wpAny_loadPart')
open MeetsSeq MeetsSeq2 MeetsSeq3 SeqRoads2
section
variable {prog : Program} {w : World}
theorem handS_tuple_eqIn (l b : Addr) (items items2 : Array Value) (n n2 : Nat) (dd dd2 : Option Addr) (sl sl2 : Array (Option Value)) (e : Nat → Bool) :
    MeetsIn prog w (Builtin.«tuple.__eq__» ⟨[.ref l, .ref b], []⟩)
      (fun A R s => s.heap.get? l = some { cls := .type "tuple", dict := dd, data := .seq items n, slots := sl } ∧ s.heap.get? b = some { cls := .type "tuple", dict := dd2, data := .seq items2 n2, slots := sl2 } ∧
        (∀ j (h1 : j < items.size) (h2 : j < items2.size), EqP prog w A.in1 s items[j] items2[j] (e j)) ∧
        R (.ok (.ret (.bool ((List.range (min items.size items2.size)).all e && items.size == items2.size)))) s) := MeetsIn.of_wp fun A R s h => by
  obtain ⟨hp, g, d, tk, os⟩ := s; obtain ⟨hl, hb, he, h⟩ := h
  have f2 := AutoSeq1.sub_tuple_tuple
  have hZ : (items.toList.zip items2.toList).length = min items.size items2.size := by simp
  wp_walk using wpAny_loadPart' hl, wpAny_loadPart' hb, wpAny_forIn_list _ (fun rest b s' => b.1 = none ∧ s' = ⟨hp, g, d, tk, os⟩ ∧ ∃ i, rest = (items.toList.zip items2.toList).drop i ∧
    R (.ok (.ret (.bool (((List.range (min items.size items2.size)).drop i).all e && items.size == items2.size)))) ⟨hp, g, d, tk, os⟩) _
  case turn =>
    rintro ⟨y, x⟩ rest b s' ⟨hb', rfl, i, hz, hR⟩
    have hlt : i < (items.toList.zip items2.toList).length := by
      rcases Nat.lt_or_ge i (items.toList.zip items2.toList).length with h' | h'
      · exact h'
      · rw [List.drop_of_length_le h'] at hz; cases hz
    have hm : i < min items.size items2.size := hZ ▸ hlt
    have h1 : i < items.size := Nat.lt_of_lt_of_le hm (Nat.min_le_left _ _)
    have h2 : i < items2.size := Nat.lt_of_lt_of_le hm (Nat.min_le_right _ _)
    rw [List.drop_eq_getElem_cons hlt] at hz
    injection hz with hyx hrest
    have hy : y = items[i] := by have := congrArg Prod.fst hyx; simpa using this
    have hx : x = items2[i] := by have := congrArg Prod.snd hyx; simpa using this
    subst hy hx
    have hd : (List.range (min items.size items2.size)).drop i = i :: (List.range (min items.size items2.size)).drop (i + 1) := by simp [List.drop_eq_getElem_cons, hm]
    rw [hd, List.all_cons] at hR
    refine wpAny_bind (he i h1 h2 _ _ ?_)
    cases hy : e i with
    | true =>
      rw [hy] at hR
      wp_walk
      exact ⟨rfl, rfl, i + 1, hrest, by simpa using hR⟩
    | false =>
      rw [hy] at hR
      wp_walk
      exact ⟨_, rfl, by simpa using hR⟩
  case fin =>
    rintro ⟨b1, b2⟩ s' ⟨hb', rfl, i, hz, hR⟩
    simp only at hb'
    subst hb'
    have hge : min items.size items2.size ≤ i := by
      rcases Nat.lt_or_ge i (items.toList.zip items2.toList).length with h' | h'
      · rw [List.drop_eq_getElem_cons h'] at hz; cases hz
      · exact hZ ▸ h'
    rw [List.drop_of_length_le (by simpa using hge)] at hR
    wp_walk
    exact ⟨_, rfl, by simpa [Builtin.Tuple.tupleCompareSizes] using hR⟩
  case h =>
    exact ⟨rfl, rfl, 0, rfl, by simpa using h⟩
theorem rcP_tuples {A : Around} {s : Shared} {l b : Addr} {items items2 : Array Value} {e : Nat → Bool} (hl : s.heap.IsTuple l items) (hb : s.heap.IsTuple b items2) (hu : A.units < cLine)
    (he : ∀ j (h1 : j < items.size) (h2 : j < items2.size), EqP prog w A.in1 s items[j] items2[j] (e j)) (E Q : Value → Shared → Prop) (h : Q (.bool ((List.range (min items.size items2.size)).all e && items.size == items2.size)) s) : wpAny (model prog w) A (richCompare .Eq (.ref l) (.ref b)) Q E s := by
  obtain ⟨⟨cls, dd, data, sl⟩, ho, hc, n, hd⟩ := id hl
  obtain ⟨⟨cls2, dd2, data2, sl2⟩, ho2, hc2, n2, hd2⟩ := id hb
  simp only at hc hd hc2 hd2
  subst hc hd hc2 hd2
  have ta : s.TypeIs (.ref l) "tuple" := ⟨_, ho, rfl⟩
  have tb : s.TypeIs (.ref b) "tuple" := ⟨_, ho2, rfl⟩
  exact wpAny_richCompare_same_room (op := .Eq) ta tb F.slot_tuple_eq (call_meetsIn F.slot_tuple_eq ta F.entry_tuple_eq (F.args_tuple_eq_2 _ _) (handS_tuple_eqIn l b items items2 n n2 dd dd2 sl sl2 e)
    ⟨ho, ho2, he, show Value.bool ((List.range (min items.size items2.size)).all e && items.size == items2.size) ≠ Value.notImplemented ∧ Q (.bool ((List.range (min items.size items2.size)).all e && items.size == items2.size)) s from ⟨(fun x => nomatch x), h⟩⟩) hu
end
end PySem.SeqAt

/-! the answer of == , in full -/
namespace B
open PySem L2 PyProof.Rows
open PySem.W (Tup T3 T4 Datum DatumOrd)
open Evl (Ex)
def AllB (E : V → V → Bool → Prop) : List V → List V → Bool → Prop
  | [], [], r => r = true
  | x :: xs, y :: ys, r => ∃ e r', E x y e ∧ AllB E xs ys r' ∧ r = (e && r')
  | _, _, _ => False
def HitsB (E : V → V → Bool → Prop) (ls : List (Key × V)) : List (Key × V) → Bool → Prop
  | [], r => r = true
  | p :: ks, r => (valV ls p.1 = none ∧ r = false) ∨ ∃ u e r', valV ls p.1 = some u ∧ E p.2 u e ∧ HitsB E ls ks r' ∧ r = (e && r')
def EqA1 (K : Fg) (H : Hp) (E : V → V → Bool → Prop) (x y : V) (r : Bool) : Prop :=
  ∃ a b, x = .ref a ∧ y = .ref b ∧
    ((∃ xs ys, SqL K H a xs ∧ SqL K H b ys ∧ AllB E xs ys r) ∨
     (∃ xs ys, SqT K H a xs ∧ SqT K H b ys ∧ AllB E xs ys r) ∨
     (∃ ks ls r', H a = some (.dK ks) ∧ H b = some (.dK ls) ∧ (ks.length = ls.length → HitsB E ls ks r') ∧ r = (decide (ks.length = ls.length) && r')))
def EqA (K : Fg) (H : Hp) : Nat → V → V → Bool → Prop
  | 0 => fun _ _ _ => False
  | n + 1 => fun x y r => (∃ (α : Type) (_ : DecidableEq α) (_ : Datum α) (a b : α), Dp K H x (Datum.toD a) ∧ Dp K H y (Datum.toD b) ∧ Datum.depth α ≤ n ∧ r = decide (a = b)) ∨ (EqA1 K H (EqA K H n) x y r ∧ (x = y → r = true))
theorem AllB.len {E : V → V → Bool → Prop} : ∀ {xs ys : List V} {r : Bool}, AllB E xs ys r → xs.length = ys.length
  | [], [], _, _ => rfl
  | _ :: _, _ :: _, _, ⟨_, _, _, h, _⟩ => congrArg (· + 1) h.len
  | [], _ :: _, _, h => h.elim
  | _ :: _, [], _, h => h.elim
theorem allB_run {P : Program} {w : World} {A : Around} {s : Shared} {F : V → V → Bool → Prop} (ih : ∀ x y r v u, F x y r → RelV x v → RelV y u → SeqAt.EqP P w A s v u r) :
    ∀ {xs ys : List V} {r : Bool} {us ws : List Value}, AllB F xs ys r → Vals xs us → Vals ys ws → ∃ e : Nat → Bool, (∀ j (h1 : j < us.length) (h2 : j < ws.length), SeqAt.EqP P w A s us[j] ws[j] (e j)) ∧ r = (List.range us.length).all e
  | [], [], r, us, ws, h, r1, r2 => by
    cases r1
    exact ⟨fun _ => true, fun j h1 => absurd h1 (Nat.not_lt_zero j), h⟩
  | x :: xs, y :: ys, r, us, ws, ⟨e, r', h, hs, er⟩, r1, r2 => by
    cases r1 with
    | cons a1 b1 =>
      cases r2 with
      | cons a2 b2 =>
        obtain ⟨e', k, er'⟩ := allB_run ih hs b1 b2
        refine ⟨fun j => match j with | 0 => e | j + 1 => e' j, fun j h1 h2 => ?_, ?_⟩
        · cases j with
          | zero => exact ih _ _ _ _ _ h a1 a2
          | succ j => exact k j (Nat.lt_of_succ_lt_succ h1) (Nat.lt_of_succ_lt_succ h2)
        · rw [er, er', List.length_cons, List.range_succ_eq_map, List.all_cons, List.all_map]
          rfl
  | [], _ :: _, _, _, _, h, _, _ => h.elim
  | _ :: _, [], _, _, _, h, _, _ => h.elim
theorem hitsB_run {P : Program} {w : World} {A : Around} {s : Shared} {F : V → V → Bool → Prop} (ih : ∀ x y r v u, F x y r → RelV x v → RelV y u → SeqAt.EqP P w A s v u r) {ls : List (Key × V)} {vb : List (Key × Value)} (rb : KV ls vb) :
    ∀ {ks : List (Key × V)} {va : List (Key × Value)} {r : Bool}, KV ks va → HitsB F ls ks r → PySem.W.KeqHitsP P w A s vb va r := by
  intro ks va r ra
  unfold KV at ra
  induction ra generalizing r with
  | nil => intro h; rw [show r = true from h]; exact .nil
  | @cons p q ps qs h t k =>
    intro hp
    obtain ⟨h1, h2⟩ := h
    obtain ⟨key, v⟩ := q
    have h1' : p.1 = key := h1
    rcases hp with ⟨n, e⟩ | ⟨u, e, r', hv, hE, hs, er⟩
    · have rr : RelO none (valueAt vb p.1) := by rw [← n]; exact rb.val p.1
      rw [e]
      refine .miss ?_
      rw [← h1']
      cases q : valueAt vb p.1 with
      | none => rfl
      | some z => rw [q] at rr; exact (show False from rr).elim
    · have rr : RelO (some u) (valueAt vb p.1) := by rw [← hv]; exact rb.val p.1
      obtain ⟨y, hy, ry⟩ := rr.some_of
      rw [h1'] at hy
      rw [er]
      exact .hit hy (ih _ _ _ _ _ hE h2 ry) (k hs)
section
variable {X : Cx} {pins : List (Addr × Obj)} {σ : L2.St} {H : Hp} {s : Shared}
theorem eqA1_run (I : Inv X pins σ H s) {A : Around} {F : V → V → Bool → Prop} (hu : A.units < cLine) (ih : ∀ x y r v u, F x y r → RelV x v → RelV y u → SeqAt.EqP X.prog X.w A.in1 s v u r) {x y : V} {r : Bool} {v u : Value} (h : EqA1 X.K H F x y r) (rx : RelV x v) (ry : RelV y u)
    (E Q : Value → Shared → Prop) (q : Q (.bool r) s) : wpAny (model X.prog X.w) A (richCompare .Eq v u) Q E s := by
  obtain ⟨a, b, rfl, rfl, h⟩ := h
  cases (show v = Value.ref a from rx)
  cases (show u = Value.ref b from ry)
  rcases h with ⟨xs, ys, ha, hb, hp⟩ | ⟨xs, ys, ha, hb, hp⟩ | ⟨ks, ls, r', ha, hb, hp, er⟩
  · obtain ⟨us, r1, p1, _⟩ := I.list ha
    obtain ⟨ws, r2, p2, _⟩ := I.list hb
    have hsz : us.toArray.size = ws.toArray.size := by
      rw [List.size_toArray, List.size_toArray, ← r1.length, ← r2.length]
      exact hp.len
    obtain ⟨e, k, er⟩ := allB_run ih hp r1 r2
    refine SeqAt.rcP_lists (e := e) p1.isList p2.isList hsz hu (fun j h1 h2 => ?_) E Q ?_
    · have := k j (by simpa using h1) (by simpa using h2)
      simpa using this
    · rw [List.size_toArray, ← er]
      exact q
  · obtain ⟨us, r1, p1, _⟩ := I.tuple ha
    obtain ⟨ws, r2, p2, _⟩ := I.tuple hb
    have hsz : us.length = ws.length := by
      rw [← r1.length, ← r2.length]
      exact hp.len
    obtain ⟨e, k, er⟩ := allB_run ih hp r1 r2
    refine SeqAt.rcP_tuples (e := e) p1 p2 hu (fun j h1 h2 => ?_) E Q ?_
    · have := k j (by simpa using h1) (by simpa using h2)
      simpa using this
    · rw [List.size_toArray, List.size_toArray, ← hsz, Nat.min_self, beq_self_eq_true, Bool.and_true, ← er]
      exact q
  · obtain ⟨_, ya, va, ra, da⟩ := (show ObjOk X.prog X.w H s.heap a (.dK ks) from I.hok a _ ha)
    obtain ⟨_, yb, vb, rb, db⟩ := (show ObjOk X.prog X.w H s.heap b (.dK ls) from I.hok b _ hb)
    have la : va.length = ks.length := ra.length.symm
    have lb : vb.length = ls.length := rb.length.symm
    refine PySem.W.rcP_dicts (knd := mixKind X.prog X.w) (r := r') ya yb da db hu (fun e => hitsB_run ih rb ra (hp (by rw [← la, ← lb]; exact e))) E Q ?_
    rw [show (va.length == vb.length && r') = r from by rw [er, la, lb]; rfl]
    exact q
theorem eqA_run (I : Inv X pins σ H s) : ∀ (n : Nat) (A : Around), A.units + n < cLine → ∀ (x y : V) (r : Bool) (v u : Value), EqA X.K H n x y r → RelV x v → RelV y u → SeqAt.EqP X.prog X.w A s v u r
  | 0, _, _, _, _, _, _, _, h, _, _ => (show False from h).elim
  | n + 1, A, hu, x, y, r, v, u, h, rx, ry => by
    rcases h with ⟨α, _, _, a, b, ha, hb, hd, er⟩ | ⟨h, same⟩
    · rw [er]
      exact (PySem.W.eqAt_datum (holds_of I ha rx) (holds_of I hb ry) (by omega)).eqP
    · have step := eqA1_run I (A := A) (by omega) (eqA_run I n A.in1 (by show A.units + 1 + n < cLine; omega)) h rx ry
      obtain ⟨a, b, rfl, rfl, _⟩ := h
      cases (show v = Value.ref a from rx)
      cases (show u = Value.ref b from ry)
      by_cases e : a = b
      · subst e
        rw [same rfl]
        exact (SeqAt.EqAt.same _).eqP
      · exact SeqAt.eqP_refs e step
end
section
variable {X : Cx}
/-- a == b, where dicts lie within -/
def rEqQ (K : Fg) : R2 := fun x y H Q => ∃ n r, n ≤ 60 ∧ EqA1 K H (EqA K H n) x y r ∧ Q (.bl r) H
theorem op_eqQ (hu : X.A.units + 64 < cLine) : OpR X (compareOp .Eq) (rEqQ X.K) := by
  intro pins s σ H x y v u Q I rx ry h
  obtain ⟨n, r, hn, h, q⟩ := h
  exact eqA1_run I (A := X.A) (by omega) (eqA_run I n X.A.in1 (by show X.A.units + 1 + n < cLine; omega)) h rx ry _ _ ⟨.bl r, H, I, rfl, q⟩
/-- d != e, two dicts -/
def rNeQ (K : Fg) : R2 := fun x y H Q => ∃ n a b ks ls r', n ≤ 60 ∧ x = .ref a ∧ y = .ref b ∧ H a = some (.dK ks) ∧ H b = some (.dK ls) ∧ (ks.length = ls.length → HitsB (EqA K H n) ls ks r') ∧ Q (.bl (!(decide (ks.length = ls.length) && r'))) H
theorem rcP_dictsNe {prog : Program} {w : World} {κ : Type} [DecidableEq κ] {knd : KeyKind prog w κ} {A : Around} {s : Shared} {a b : Addr} {ka kb : List (κ × Value)} {r : Bool} (ha : (a == sysModules) = false) (hb : (b == sysModules) = false)
    (da : s.heap.DictOf knd a ka) (db : s.heap.DictOf knd b kb) (hu : A.units < cLine) (hits : ka.length = kb.length → PySem.W.KeqHitsP prog w A.in1 s kb ka r) (E Q : Value → Shared → Prop) (h : Q (.bool (!(ka.length == kb.length && r))) s) : wpAny (model prog w) A (compareOp .NotEq (.ref a) (.ref b)) Q E s := by
  refine wpAny_richCompare_same_room (op := .NotEq) da.typeIs db.typeIs PySem.F.slot_dict_ne (wpAny_call_entry PySem.F.slot_dict_ne da.typeIs PySem.F.entry_dict_ne ?_ (PySem.F.args_dict_ne_2 _ _)) hu
  show wpAny _ _ (Builtin.Dict.dictSlotArgs "__ne__" ⟨[.ref a, .ref b], []⟩ >>= _) _ _ s
  refine wpAny_bind ?_
  unfold Builtin.Dict.dictSlotArgs
  refine wpAny_bind (wpAny_notOrdered_dict da.typeIs ?_)
  show wpAny _ _ (pure (Value.ref a, Value.ref b)) _ _ s
  refine wpAny_pure ?_
  refine wpAny_bind (wpAny_isInstance (T := "dict") db.typeIs PySem.F.sub_dict_dict ?_)
  simp only [Bool.not_true, Bool.false_eq_true, if_false]
  refine wpAny_bind (wpAny_pure (wpAny_bind (wpAny_pure ?_)))
  refine wpAny_bind (PySem.W.samePairsP ha hb da db hits ?_)
  refine wpAny_pure ⟨_, rfl, ?_, ?_⟩
  · exact fun x => nomatch x
  · simpa using h
theorem op_neQ (hu : X.A.units + 64 < cLine) : OpR X (compareOp .NotEq) (rNeQ X.K) := by
  intro pins s σ H x y v u Q I rx ry h
  obtain ⟨n, a, b, ks, ls, r', hn, rfl, rfl, ha, hb, hp, q⟩ := h
  cases (show v = Value.ref a from rx)
  cases (show u = Value.ref b from ry)
  obtain ⟨_, ya, va, ra, da⟩ := (show ObjOk X.prog X.w H s.heap a (.dK ks) from I.hok a _ ha)
  obtain ⟨_, yb, vb, rb, db⟩ := (show ObjOk X.prog X.w H s.heap b (.dK ls) from I.hok b _ hb)
  have la : va.length = ks.length := ra.length.symm
  have lb : vb.length = ls.length := rb.length.symm
  have ih := eqA_run (A := X.A.in1) I n
  refine rcP_dictsNe (knd := mixKind X.prog X.w) (r := r') ya yb da db (by omega) (fun e => hitsB_run (eqA_run I n X.A.in1 (by show X.A.units + 1 + n < cLine; omega)) rb ra (hp (by rw [← la, ← lb]; exact e))) _ _ ?_
  rw [show (va.length == vb.length && r') = (decide (ks.length = ls.length) && r') from by rw [la, lb]; rfl]
  exact ⟨.bl _, H, I, rfl, q⟩
end
end B
/-! B: x not in a list of texts, x a thing of any kind -/
namespace PySem
namespace SeqAt
open AutoSeq1 (wpAny_loadPart')
open MeetsSeq
open PySem.Calls Builtin
theorem str_declines_dict (b : Str) (u : Tok) (l : Addr) (es : Array DictEntry) (n : Nat) (dd : Option Addr) (sl : Array (Option Value)) :
    Meets (Builtin.«str.__eq__» ⟨[.str b u, .ref l], []⟩) (fun _ R s => s.heap.get? l = some { cls := .type "dict", dict := dd, data := .dict es n, slots := sl } ∧ R (.ok (.ret .notImplemented)) s) :=
  .of_wp fun prog w A R s h => by
    obtain ⟨hp, g, d, tk, os⟩ := s
    obtain ⟨hl, h⟩ := h
    wp_walk using wpAny_loadPart' hl, wpAny_load hl
    exact ⟨_, rfl, h⟩
theorem dict_declines_str (l : Addr) (es : Array DictEntry) (n : Nat) (dd : Option Addr) (sl : Array (Option Value)) (b : Str) (u : Tok) :
    Meets (Builtin.«dict.__eq__» ⟨[.ref l, .str b u], []⟩) (fun _ R s => s.heap.get? l = some { cls := .type "dict", dict := dd, data := .dict es n, slots := sl } ∧ R (.ok (.ret .notImplemented)) s) :=
  .of_wp fun prog w A R s h => by
    obtain ⟨hp, g, d, tk, os⟩ := s
    obtain ⟨hl, h⟩ := h
    have f1 := F.sub_str_dict
    wp_walk using wpAny_loadPart' hl
    exact ⟨_, rfl, h⟩
theorem eq_str_dict {A : Around} {s : Shared} {l : Addr} {o : Obj} {es : Array DictEntry} {n : Nat} (b : Str) (u : Tok) (ho : s.heap.get? l = some o) (hc : o.cls = .type "dict") (hd : o.data = .dict es n) (hu : A.units < cLine) : EqAt A s (.str b u) (.ref l) false := fun prog w E Q h => by
  obtain ⟨cls, dd, data, sl⟩ := o
  simp only at hc hd
  subst hc hd
  unfold eqBool
  refine wpAny_holding ?_
  refine wpAny_ite_split (fun hab => absurd (eq_of_beq hab) nofun) (fun _ => ?_)
  refine wpAny_bind ?_
  exact rc_eq_decline_or (k := false) (typeIs_str s b u) ⟨_, ho, rfl⟩ (by decide) F.sub_dict_str F.slot_str_eq F.slot_dict_eq_refl
    (fun _ hq => call_meets F.slot_str_eq (typeIs_str s b u) F.entry_str_eq (F.args_str_eq_2 _ _) (str_declines_dict b u l es n dd sl) ⟨ho, hq⟩)
    (fun _ hq => call_meets F.slot_dict_eq_refl ⟨_, ho, rfl⟩ F.entry_dict_eq (F.args_dict_eq_2 _ _) (dict_declines_str l es n dd sl b u) ⟨ho, hq⟩)
    (fun _ hq => wpAny_of_eq (rfl : isSame (.str b u) (.ref l) = pure false) hq) (.inr hu) (wpAny_truthy_bool h)
end SeqAt
end PySem
namespace B
open PySem PySem.Spec PyProof.Rows L2
/-- a thing that is no text -/
def NotS (K : Fg) (H : Hp) (x : V) : Prop := x = .non ∨ (∃ b, x = .bl b) ∨ (∃ i, x = .int i) ∨ (∃ a xs, x = .ref a ∧ SqL K H a xs) ∨ (∃ a xs, x = .ref a ∧ SqT K H a xs) ∨ (∃ a ks, x = .ref a ∧ Rd H a (.dK ks))
/-- x not in ys, x a thing of any kind, ys texts -/
def rNinX (K : Fg) : R2 := fun x y H Q => rInTL K true x y H Q ∨ (NotS K H x ∧ ∃ (a : Addr) (ss : List Str), y = .ref a ∧ SqL K H a (ss.map V.str) ∧ Q (.bl true) H)
theorem vals_strs : ∀ {ss : List Str} {us : List Value}, Vals (ss.map V.str) us → ∀ u ∈ us, ∃ s t, u = .str s t
  | [], _, .nil, u, h => by cases h
  | s :: ss, _, .cons r rs, u, h => by
    rcases List.mem_cons.mp h with rfl | h
    · obtain ⟨t, e⟩ := r
      exact ⟨s, t, e⟩
    · exact vals_strs rs u h
theorem op_ninX {X : Cx} (hu : X.A.units + 64 < cLine) : OpR X (compareOp .NotIn) (rNinX X.K) := by
  intro pins s σ H x y v u Q I rx ry h
  rcases h with h | ⟨hn, a, ss, rfl, hl, q⟩
  · exact op_notInTL hu pins s σ H x y v u Q I rx ry h
  obtain rfl : u = Value.ref a := ry
  obtain ⟨its, rv, ⟨o, n, ho, hc, _, hd⟩, _⟩ := I.list hl
  have allS := vals_strs rv
  have hu1 : X.A.in1.units < cLine := by show X.A.units + 1 < _; omega
  have fin : ∀ {v : Value}, (∀ y, y ∈ its.toArray → SeqAt.EqAt X.A.in1 s y v false) → wpAny (model X.prog X.w) X.A (compareOp .NotIn v (.ref a)) (EP X pins σ Q) X.xe s := fun {v} he =>
    SeqAt.notIn_listAt (fun _ => false) ⟨o, ho, hc, n, hd⟩ he (by
      rw [show (its.toArray.any fun _ => false) = false by simp]
      exact ⟨.bl true, H, I, rfl, q⟩)
  have at_ : ∀ {y : Value}, y ∈ its.toArray → ∃ s t, y = .str s t := fun h => allS _ (by simpa using h)
  rcases hn with rfl | ⟨b, rfl⟩ | ⟨i, rfl⟩ | ⟨c, xs, rfl, hs⟩ | ⟨c, xs, rfl, hs⟩ | ⟨c, ks, rfl, hs⟩
  · obtain rfl : v = Value.none := rx
    exact fin fun y hy => by obtain ⟨s', t, rfl⟩ := at_ hy; exact SeqAt.EqAt.str_none _ _
  · obtain rfl : v = Value.bool b := rx
    exact fin fun y hy => by obtain ⟨s', t, rfl⟩ := at_ hy; exact SeqAt.EqAt.str_bool _ _ _
  · obtain ⟨t2, rfl⟩ := rx
    exact fin fun y hy => by obtain ⟨s', t, rfl⟩ := at_ hy; exact SeqAt.EqAt.str_int _ _ _ _
  · obtain rfl : v = Value.ref c := rx
    obtain ⟨its2, _, ⟨o2, n2, ho2, hc2, _, hd2⟩, _⟩ := I.list hs
    exact fin fun y hy => by obtain ⟨s', t, rfl⟩ := at_ hy; exact SeqAt.EqAt.str_list _ _ ⟨o2, ho2, hc2, n2, hd2⟩ hu1
  · obtain rfl : v = Value.ref c := rx
    obtain ⟨its2, _, ⟨o2, ho2, hc2, n2, hd2⟩, _⟩ := I.tuple hs
    exact fin fun y hy => by obtain ⟨s', t, rfl⟩ := at_ hy; exact SeqAt.EqAt.str_tuple _ _ ⟨o2, ho2, hc2, n2, hd2⟩ hu1
  · obtain rfl : v = Value.ref c := rx
    obtain ⟨_, _, vs, _, o2, es, ep, ho2, ex, hd2, _⟩ := dk_rd I.hok hs
    exact fin fun y hy => by obtain ⟨s', t, rfl⟩ := at_ hy; exact SeqAt.eq_str_dict _ _ ho2 ex.1 hd2 hu1
end B
/-! B: methods called within a try -/
namespace B
open PySem PySem.Spec PyProof.Rows L2
/-- o.m(e, .., k = v, ..) within a try -/
def tMethNS (C : Addr) (m : Str) (n j : Nat) (sp : Sp) (gV : List V → List V → List V) (E : L2.St → XK) (to : TE) (t tk : TA) : TE := fun σ H Q => to σ H fun x H1 => ∃ a dx fs, x = .ref a ∧ H1 a = some (.ins C dx fs) ∧ fs.lookup m = none ∧
  t σ H1 fun vs H2 => tk σ H2 fun zs H3 => vs.length = n ∧ zs.length = j ∧ sp (gV (x :: vs) zs) H3 Q (E σ)
/-- o.m(e, ..) within a try -/
def tMethTS (C : Addr) (m : Str) (sp : Sp) (E : L2.St → XK) (to : TE) (t : TA) : TE := fun σ H Q => to σ H fun x H1 => ∃ a dx fs, x = .ref a ∧ H1 a = some (.ins C dx fs) ∧ fs.lookup m = none ∧ t σ H1 fun vs H2 => sp (x :: vs) H2 Q (E σ)
section
variable {X : Cx} {CX : CXT} {k n j : Nat} {f C : Addr} {fd : FuncData} {ps ks : List Str} {sp : Sp} {E : L2.St → XK} {o e : Expr} {es : List Expr} {to : TE} {t tk : TA} {kws : List Keyword} {m : Str} {apos pos : Pos} {gV : List V → List V → List V}
theorem run_fnNS {g : List Value → List Value → List Value} {pins : List (Addr × Obj)} {σ : L2.St} {H : Hp} {s : Shared} {Q : VK} {us ws : List Value} {vs zs : List V} (F : FnOk X.prog X.w X.K X.mg X.base CX k f fd ps sp) (hr : Room k X.A) (hb : KBn X.K fd ps n ks g gV) (hx : PassesAt CX X σ (E σ))
    (I : Inv X pins σ H s) (r : Vals vs us) (rz : Vals zs ws) (l1 : vs.length = n) (l2 : zs.length = ks.length) (h : sp (gV vs zs) H Q (E σ)) : wpAny (model X.prog X.w) X.A (call (.ref f) us (ks.zip ws)) (EP X pins σ Q) X.xe s := by
  have r2 := hb.rel r rz
  refine wpAny_call (codeAny_mono (F.run X.A X.stack s H ⟨us, ks.zip ws⟩ (g us ws) (gV vs zs) Q (E σ) hr I.env0 (hb.to s us ws I.kIn (r.length.symm.trans l1) (rz.length.symm.trans l2)) r2 h) fun r s' hq => ?_)
  cases r with
  | error e => exact hx pins H s e s' I hq
  | ok fl =>
    cases fl with
    | ret u => exact I.after hq
    | next => exact False.elim hq
    | brk => exact False.elim hq
    | cont => exact False.elim hq
theorem pe_methNS {pl : Sem Bool} (he : PE X o to) (c : Cls X.K C) (hm : Meth X.K C m f) (F : FnOk X.prog X.w X.K X.mg X.base CX k f fd ps sp) (hr : Room k X.A) (hb : ∃ g, KBn X.K fd ps (n + 1) ks g gV) (hx : ∀ σ, PassesAt CX X σ (E σ)) (ha : PA X (e :: es) t)
    (hkw : PK X kws tk) (hall : (backToKw pos (keywordEach kws X.env)).all (·.1.isSome) = true := by rfl) (hks : (backToKw pos (keywordEach kws X.env)).filterMap (·.1) = ks := by rfl)
    (hn : j = ks.length := by rfl) (hpl : ((backTo pos (starEach (e :: es) X.env)).any (·.1) || (backToKw pos (keywordEach kws X.env)).any (·.1.isNone)) = false := by rfl) (hs : starEach (e :: es) X.env = (false, eval e X.env) :: starEach es X.env := by rfl)
    (ht : eval (.Call (.Attribute o m apos) (e :: es) kws pos) X.env = (eval o X.env >>= fun ov => standAt apos.atName >>= fun _ => holding [ov] (getMethod ov m pl) >>= fun fx => callWith pos fx.1 fx.2 (backTo pos (starEach (e :: es) X.env)) (backToKw pos (keywordEach kws X.env))) := by rfl) :
    PE X (.Call (.Attribute o m apos) (e :: es) kws pos) (tMethNS C m n j sp gV E to t tk) := by
  subst hn
  obtain ⟨g, hb⟩ := hb
  refine ⟨fun pins s σ H Q I h => PySem.W.methodCall_KW (pl := pl) (thn (he.run pins s σ H _ I h) fun u s1 ⟨x, H1, I1, rx, a, dx, fs, ex, ea, lk, q⟩ => ?_) ht⟩
  subst ex
  obtain rfl : u = Value.ref a := rx
  refine getmeth_ok I1 ea c hm lk (PySem.W.callWith_KW (first := [.ref a]) (h₀ := X.base) I.ok.mod.kin hm.kp hall (thn (ha.run pos pins s1 σ H1 _ I1 q) fun us s2 ⟨vs, H2, I2, r, q2⟩ => thn (hkw.run pos pins s2 σ H2 _ I2 q2) fun ws s3 ⟨zs, H3, I3, rz, l1, l2, q3⟩ => ⟨I3.kIn, ?_⟩) hpl hs)
  rw [hks]
  exact run_fnNS (vs := .ref a :: vs) F hr hb (hx σ) I3 (.cons rfl r) rz (by rw [List.length_cons, l1]) l2 q3
theorem pe_methTS {pl : Sem Bool} (he : PE X o to) (c : Cls X.K C) (hm : Meth X.K C m f) (F : FnOk X.prog X.w X.K X.mg X.base CX k f fd ps sp) (hr : Room k X.A) (hb : Binds X.K fd ps []) (hx : ∀ σ, PassesAt CX X σ (E σ)) (ha : PA X (e :: es) t)
    (hst : starEach (e :: es) X.env = (false, eval e X.env) :: starEach es X.env := by rfl) (hpl : (backTo pos (starEach es X.env)).any (·.1) = false := by rfl)
    (ht : eval (.Call (.Attribute o m apos) (e :: es) [] pos) X.env = (do
      let ov ← eval o X.env
      standAt apos.atName
      let (f, first) ← holding [ov] (getMethod ov m pl)
      callWith pos f first (backTo pos (starEach (e :: es) X.env)) (backToKw pos (keywordEach [] X.env))) := by rfl) :
    PE X (.Call (.Attribute o m apos) (e :: es) [] pos) (tMethTS C m sp E to t) := by
  refine ⟨fun pins s σ H Q I h => ?_⟩
  refine PySem.W.methodCall_KW (pl := pl) (thn (he.run pins s σ H _ I h) fun u s1 ⟨x, H1, I1, rx, a, dx, fs, ex, ea, l, q⟩ => ?_) ht
  subst ex
  obtain rfl : u = Value.ref a := rx
  refine getmeth_ok I1 ea c hm l ?_
  refine PySem.W.callWith_K (first := [.ref a]) (h₀ := X.base) I.ok.mod.kin hm.kp (thn (ha.run pos pins s1 σ H1 _ I1 q) fun us s2 ⟨vs, H2, I2, r, q2⟩ => ⟨I2.kIn, ?_⟩) hst hpl
  exact run_fnS (us := .ref a :: us) (vs := .ref a :: vs) F hr hb (hx σ) I2 (.cons rfl r) q2
end
end B
/-! B: instances made within a try; isinstance(e, (A, B, ..)) of an error that was kept -/
namespace B
open PySem PySem.Spec PyProof.Rows L2
/-- C(e, ..) within a try -/
def tMakeTS (C : Addr) (sp : Sp) (E : L2.St → XK) (t : TA) : TE := fun σ H Q => t σ H fun vs H1 => ∀ x dx, H1 x = none → H1 dx = none → dx ≠ x →
  sp (.ref x :: vs) (upd (upd H1 dx (.own x)) x (.ins C dx [])) (fun v H2 => v = .non ∧ Q (.ref x) H2) (E σ)
section
variable {X : Cx} {CX : CXT} {k : Nat} {f C : Addr} {fd : FuncData} {ps : List Str} {sp : Sp} {E : L2.St → XK} {x : Str} {p pos : Pos} {e : Expr} {es : List Expr} {t : TA}
theorem run_makeTS {pins : List (Addr × Obj)} {σ : L2.St} {H : Hp} {s : Shared} {Q : VK} {us : List Value} {vs : List V} (M : Mk X.K C f) (F : FnOk X.prog X.w X.K X.mg X.base CX k f fd ps sp) (hr : Room (k + 1) X.A) (hb : Binds X.K fd ps [])
    (hx : PassesAt CX X σ (E σ)) (I : Inv X pins σ H s) (r : Vals vs us)
    (h : ∀ x dx, H x = none → H dx = none → dx ≠ x → sp (.ref x :: vs) (upd (upd H dx (.own x)) x (.ins C dx [])) (fun v H2 => v = .non ∧ Q (.ref x) H2) (E σ)) :
    wpAny (model X.prog X.w) X.A (call (.ref C) us) (EP X pins σ Q) X.xe s := by
  have hq := h (s.heap.objs.size + 1) s.heap.objs.size (I.hok.fresh (Nat.le_succ _)) (I.hok.fresh (Nat.le_refl _)) (Nat.ne_of_lt (Nat.lt_succ_self _))
  have I2 := Inv.made (C := C) I
  have r2 : Vals (V.ref (s.heap.objs.size + 1) :: vs) (Value.ref (s.heap.objs.size + 1) :: us) := .cons rfl r
  have hl : ((Value.ref (s.heap.objs.size + 1) :: us) ++ []).length = ps.length := by
    have e := r2.length
    rw [F.len _ _ _ _ hq] at e
    rw [List.append_nil]
    exact e.symm
  have b := hb _ (Value.ref (s.heap.objs.size + 1) :: us) I2.kIn hl
  rw [List.append_nil] at b
  refine wpAny_call (make_map (f := f) I.kIn M.makes M.init (beq_iff_eq.mp M.fn) (codeAny_mono (F.run _ X.stack _ _ ⟨Value.ref (s.heap.objs.size + 1) :: us, []⟩ (Value.ref (s.heap.objs.size + 1) :: us) _ _ (E σ) (hr.make C us [])
    (I2.env0.make C us []) b r2 hq) fun r s' hq' => ?_))
  cases r with
  | error e => exact hx pins _ _ e s' I2 hq'
  | ok fl =>
    cases fl with
    | ret u =>
      obtain ⟨v, H', I3, rv, ev, q3⟩ := I2.after hq'
      subst ev
      exact ⟨rv, ⟨V.ref (s.heap.objs.size + 1), H', I3, rfl, q3⟩⟩
    | next => exact False.elim hq'
    | brk => exact False.elim hq'
    | cont => exact False.elim hq'
theorem pe_makeTS (M : Mk X.K C f) (F : FnOk X.prog X.w X.K X.mg X.base CX k f fd ps sp) (hr : Room (k + 1) X.A) (hg : Gl X x) (hm : X.mg x = some (.ref C)) (hb : Binds X.K fd ps []) (hx : ∀ σ, PassesAt CX X σ (E σ))
    (ha : PA X (e :: es) t) (hdb : (x == ("__debug__" : Str)) = false := by decide) (he : starEach (e :: es) X.env = (false, eval e X.env) :: starEach es X.env := by rfl) (hpl : (backTo pos (starEach es X.env)).any (·.1) = false := by rfl) :
    PE X (.Call (.Name x p) (e :: es) [] pos) (tMakeTS C sp E t) := by
  refine ⟨fun pins s σ H Q I h => ?_⟩
  refine wpAny_Call_Name_kw (ld_glob I hg hm ?_ hdb)
  refine PySem.W.callWith_K (h₀ := X.base) I.ok.mod.kin M.kp (thn (ha.run pos pins s σ H _ I h) fun us s1 ⟨vs, H1, I1, r, q⟩ => ⟨I1.kIn, ?_⟩) he hpl
  exact run_makeTS M F hr hb (hx σ) I1 r q
end
/-- isinstance(e, (A, B, ..)), e an error that was kept -/
def rIsKT (K : PySem.W.Frag) : List V → Hp → VK → Prop := fun xs H Q => ∃ (a D tp : Addr) (cs : List V) (us : List Value) (b : Bool), xs = [.ref a, .ref tp] ∧ H a = some (BX.ExK (.ref D) none a) ∧ ExcC K D ∧ H tp = some (.tup cs) ∧ Paired ClsV cs us ∧ PySem.W.kitAny K (.ref D) us = some b ∧ Q (.bl b) H
theorem call_isKT {X : Cx} : CallR X (.builtin "isinstance") (rIsKT X.K) := by
  intro pins s σ H xs us Q I r h
  obtain ⟨a, D, tp, cs, ws, b, rfl, ha, C, hT, k, e, q⟩ := h
  obtain ⟨u1, u2, rfl, r1, r2⟩ := vals2 r
  cases (show u1 = Value.ref a from r1)
  cases (show u2 = Value.ref tp from r2)
  obtain ⟨oe, vs, hget, hz, hv⟩ := (I.hok a _ ha).1
  have J : PySem.W.InstAt s.heap a oe D none := by
    obtain ⟨oc, od, oda, osl⟩ := oe
    obtain ⟨h1, h2⟩ := hz
    dsimp only at h1 h2 hv
    subst h1 h2 hv
    exact ⟨hget, rfl, rfl, trivial⟩
  obtain ⟨_, its, rv, o, h1, h2, n, h3⟩ := (show ObjOk X.prog X.w H s.heap tp (.tup cs) from I.hok tp _ hT)
  have e3 := ClsV.all k rv
  subst e3
  obtain ⟨oc, od, dt, sl⟩ := o
  simp only at h2 h3
  subst h2 h3
  exact PySem.W.kia_tup (PySem.W.handS_kitx_exc C.hg C.hk C.hs C.hd C.ha C.hn C.ht C.hm) I.kIn J h1 e (fun z => nomatch z) fun tk => ⟨.bl b, H, I.kept (t' := tk) fun _ _ z => z, rfl, q⟩
end B
/-! != of lists within one model -/
namespace PySem.SeqAt
open AutoSeq1 (wpAny_loadPart')
open MeetsSeq MeetsSeq2 MeetsSeq3 SeqRoads2
section
variable {prog : Program} {w : World}
theorem handS_ne_loopIn (l b : Addr) (items items2 : Array Value) (n n2 : Nat) (dd dd2 : Option Addr) (sl sl2 : Array (Option Value)) (hsz : items.size = items2.size) (e : Nat → Bool) (k : Nat) :
    ∀ i : Nat, items.size - i = k → MeetsIn prog w (Builtin.«list.__eq__.loop» ⟨[.ref l, .ref b, rawInt i, rawInt 3], []⟩)
      (fun A R s => s.heap.get? l = some { cls := .type "list", dict := dd, data := .seq items n, slots := sl } ∧ s.heap.get? b = some { cls := .type "list", dict := dd2, data := .seq items2 n2, slots := sl2 } ∧
        (∀ j (h1 : j < items.size) (h2 : j < items2.size), EqP prog w A.in1 s items[j] items2[j] (e j)) ∧
        R (.ok (.ret (.bool (!((List.range items.size).drop i).all e)))) s) := by
  induction k with
  | zero =>
    intro i hk A R s h
    obtain ⟨hp, g, d, tk, os⟩ := s; obtain ⟨hl, hb, he, h⟩ := h
    wp_walk using wpAny_loadPart' hl, wpAny_loadPart' hb
    have hi1 : items[((i : Nat) : Int).toNat]? = none := by simp; omega
    have hi2 : items2[((i : Nat) : Int).toNat]? = none := by simp; omega
    have hd : (List.range items.size).drop i = [] := by simp; omega
    rw [hd] at h
    rw [hi1, hi2]
    wp_walk using wpAny_loadPart' hl, wpAny_loadPart' hb
    show R (.ok (.ret (.bool (items.size != items2.size)))) _
    rw [hsz]
    simpa using h
  | succ k ih =>
    intro i hk A R s h
    obtain ⟨hp, g, d, tk, os⟩ := s; obtain ⟨hl, hb, he, h⟩ := h
    wp_walk using wpAny_loadPart' hl, wpAny_loadPart' hb
    have hlt : i < items.size := by omega
    have hlt2 : i < items2.size := by omega
    have hi1 : items[((i : Nat) : Int).toNat]? = some items[i] := by simp [hlt]
    have hi2 : items2[((i : Nat) : Int).toNat]? = some items2[i] := by simp [hlt2]
    have hd : (List.range items.size).drop i = i :: (List.range items.size).drop (i + 1) := by simp [List.drop_eq_getElem_cons, hlt]
    have hc : ((i : Int) + 1) = ((i + 1 : Nat) : Int) := by push_cast; rfl
    rw [hd, List.all_cons] at h
    rw [hi1, hi2]
    refine wpAny_bind (he i hlt hlt2 _ _ ?_)
    cases hb' : e i with
    | true =>
      rw [hb'] at h
      wp_walk
      rw [hc]
      exact ⟨plainId_quiet plain_eq_loop _, codeAny_builtin entry_eq_loop (by
        rw [Around.under_plainId plain_eq_loop _]
        exact ih (i + 1) (by omega) A R _ ⟨hl, hb, he, by simpa using h⟩)⟩
    | false =>
      rw [hb'] at h
      wp_walk using wpAny_loadPart' hl, wpAny_loadPart' hb
      rw [hi1, hi2]
      wp_walk
      simpa using h

theorem handS_list_neIn (l b : Addr) (items items2 : Array Value) (n n2 : Nat) (dd dd2 : Option Addr) (sl sl2 : Array (Option Value)) (hsz : items.size = items2.size) (e : Nat → Bool) :
    MeetsIn prog w (Builtin.«list.__ne__» ⟨[.ref l, .ref b], []⟩)
      (fun A R s => s.heap.get? l = some { cls := .type "list", dict := dd, data := .seq items n, slots := sl } ∧ s.heap.get? b = some { cls := .type "list", dict := dd2, data := .seq items2 n2, slots := sl2 } ∧
        (∀ j (h1 : j < items.size) (h2 : j < items2.size), EqP prog w A.in1 s items[j] items2[j] (e j)) ∧
        R (.ok (.ret (.bool (!(List.range items.size).all e)))) s) := by
  intro A R s h
  obtain ⟨hp, g, d, tk, os⟩ := s; obtain ⟨hl, hb, he, h⟩ := h
  have f3 := AutoSeq1.sub_list_list
  have hne : ¬ (items.size != items2.size) = true := by simp [hsz]
  wp_walk using wpAny_loadPart' hl, wpAny_loadPart' hb
  exact ⟨plainId_quiet plain_eq_loop _, codeAny_builtin entry_eq_loop (by
    rw [Around.under_plainId plain_eq_loop _]
    exact handS_ne_loopIn l b items items2 n n2 dd dd2 sl sl2 hsz e _ 0 rfl A R _ ⟨hl, hb, he, by simpa using h⟩)⟩

theorem rcP_listsNe {A : Around} {s : Shared} {l b : Addr} {items items2 : Array Value} {e : Nat → Bool} (hl : s.heap.IsList l items) (hb : s.heap.IsList b items2) (hsz : items.size = items2.size) (hu : A.units < cLine)
    (he : ∀ j (h1 : j < items.size) (h2 : j < items2.size), EqP prog w A.in1 s items[j] items2[j] (e j)) (E Q : Value → Shared → Prop) (h : Q (.bool (!(List.range items.size).all e)) s) : wpAny (model prog w) A (richCompare .NotEq (.ref l) (.ref b)) Q E s := by
  obtain ⟨⟨cls, dd, data, sl⟩, ho, hc, n, hd⟩ := id hl
  obtain ⟨⟨cls2, dd2, data2, sl2⟩, ho2, hc2, n2, hd2⟩ := id hb
  simp only at hc hd hc2 hd2
  subst hc hd hc2 hd2
  have ta : s.TypeIs (.ref l) "list" := ⟨_, ho, rfl⟩
  have tb : s.TypeIs (.ref b) "list" := ⟨_, ho2, rfl⟩
  exact wpAny_richCompare_same_room (op := .NotEq) ta tb F.slot_list_ne (call_meetsIn F.slot_list_ne ta F.entry_list_ne (F.args_list_ne_2 _ _) (handS_list_neIn l b items items2 n n2 dd dd2 sl sl2 hsz e)
    ⟨ho, ho2, he, show Value.bool (!(List.range items.size).all e) ≠ Value.notImplemented ∧ Q (.bool (!(List.range items.size).all e)) s from ⟨(fun x => nomatch x), h⟩⟩) hu
end
end PySem.SeqAt
namespace B
open PySem L2 PyProof.Rows
section
variable {X : Cx}
/-- a != b: two texts, or two lists where dicts lie within -/
def rNeW (K : Fg) : R2 := fun x y H Q => (∃ i j : Str, x = .str i ∧ y = .str j ∧ Q (.bl (!decide (i = j))) H) ∨ (∃ n a b xs ys r, n ≤ 60 ∧ x = .ref a ∧ y = .ref b ∧ SqL K H a xs ∧ SqL K H b ys ∧ AllB (EqA K H n) xs ys r ∧ Q (.bl (!r)) H) ∨ (∃ a b xs ys, x = .ref a ∧ y = .ref b ∧ SqL K H a xs ∧ SqL K H b ys ∧ xs.length ≠ ys.length ∧ Q (.bl true) H)
theorem op_neW (hu : X.A.units + 64 < cLine) : OpR X (compareOp .NotEq) (rNeW X.K) := by
  intro pins s σ H x y v u Q I rx ry h
  rcases h with ⟨i, j, rfl, rfl, q⟩ | ⟨n, a, b, xs, ys, r, hn, rfl, rfl, ha, hb, hp, q⟩ | ⟨a, b, xs, ys, rfl, rfl, ha, hb, hne, q⟩
  · refine op_ne pins s σ H (.str i) (.str j) v u Q I rx ry ⟨rfl, ?_⟩
    rw [show decide (V.str i = V.str j) = decide (i = j) from by
      by_cases e : i = j
      · rw [decide_eq_true e, decide_eq_true (by rw [e])]
      · rw [decide_eq_false e, decide_eq_false fun z => e (by injection z)]]
    exact q
  · cases (show v = Value.ref a from rx)
    cases (show u = Value.ref b from ry)
    obtain ⟨us, r1, p1, _⟩ := I.list ha
    obtain ⟨ws, r2, p2, _⟩ := I.list hb
    have hsz : us.toArray.size = ws.toArray.size := by
      rw [List.size_toArray, List.size_toArray, ← r1.length, ← r2.length]
      exact hp.len
    obtain ⟨e, k, er⟩ := allB_run (eqA_run I n X.A.in1 (by show X.A.units + 1 + n < cLine; omega)) hp r1 r2
    refine SeqAt.rcP_listsNe (e := e) p1.isList p2.isList hsz (by omega) (fun j h1 h2 => ?_) _ _ ?_
    · have := k j (by simpa using h1) (by simpa using h2)
      simpa using this
    · rw [List.size_toArray, ← er]
      exact ⟨.bl _, H, I, rfl, q⟩
  · cases (show v = Value.ref a from rx)
    cases (show u = Value.ref b from ry)
    obtain ⟨us, r1, p1, _⟩ := I.list ha
    obtain ⟨ws, r2, p2, _⟩ := I.list hb
    exact SeqAt.RcNeAt.lists_lengths p1.isList p2.isList (by simp [← r1.length, ← r2.length, hne]) (by omega) _ _ _ _ ⟨.bl true, H, I, rfl, q⟩
end
/-- xs.insert(i, y) -/
def rInsert : V → List V → Hp → VK → Prop := fun x vs H Q => ∃ (l : Addr) (xs : List V) (i : Int) (y : V), x = .ref l ∧ vs = [.int i, y] ∧ H l = some (.lst xs) ∧ xs.length < sizeLine ∧ 0 ≤ i ∧ i < 2 ^ 63 ∧ Q .non (upd H l (.lst (xs.take i.toNat ++ [y] ++ xs.drop i.toNat)))
end B
/-! the draws of the laws: begun, draw, pick -/
namespace B
open PySem L2
open Evl (Ex)
/-- the state of draws: the list at p holds the cells' list (at c), the place, the mixed number -/
structure St (W : Wd) (p c : Addr) : Prop where
  bp : W.B p = none
  bc : W.B c = none
  ne : p ≠ c
  ex : ∃ (a m : Int) (cs : List Int), W.H p = some (.lst [.ref c, .int a, .int m]) ∧ W.H c = some (.lst (cs.map V.int)) ∧ cs ≠ [] ∧ (∀ x ∈ cs, 0 ≤ x) ∧ 0 ≤ a ∧ 0 ≤ m ∧ m < 2147483647
theorem St.keep {W W' : Wd} {p c : Addr} (s : St W p c) (hp : W'.H p = W.H p) (hc : W'.H c = W.H c) (bp : W'.B p = W.B p) (bc : W'.B c = W.B c) : St W' p c :=
  ⟨bp.trans s.bp, bc.trans s.bc, s.ne, by
    obtain ⟨a, m, cs, h1, h2, r⟩ := s.ex
    exact ⟨a, m, cs, hp.trans h1, hc.trans h2, r⟩⟩
theorem St.dom {W : Wd} {p c : Addr} (s : St W p c) : W.H p ≠ none ∧ W.H c ≠ none := by
  obtain ⟨a, m, cs, h1, h2, _⟩ := s.ex
  exact ⟨by rw [h1]; exact (fun z => by cases z), by rw [h2]; exact (fun z => by cases z)⟩
theorem St.nt {W : Wd} {p c : Addr} (s : St W p c) : Nt W.H p ∧ Nt W.H c := by
  obtain ⟨a, m, cs, h1, h2, _⟩ := s.ex
  exact ⟨.l h1, .l h2⟩
theorem St.off {S : List Addr} {W W' : Wd} {p c : Addr} (s : St W p c) (g : Md S W W') (hp : p ∉ S) (hc : c ∉ S) : St W' p c := by
  obtain ⟨a, m, cs, h1, h2, r⟩ := id s.ex
  exact s.keep ((g.o p _ hp h1).trans h1.symm) ((g.o c _ hc h2).trans h2.symm) (g.m p s.nt.1) (g.m c s.nt.2)
theorem St.g {W W' : Wd} {p c : Addr} (s : St W p c) (g : Grow W W') : St W' p c := s.off g (by simp) (by simp)
/-- the effect of drawing -/
def drw (p c : Addr) : Ef := ⟨[p, c], fun W => St W p c, fun W a s h => by
    have : a = p ∨ a = c := by simpa using h
    rcases this with e | e <;> rw [e]
    · exact s.nt.1
    · exact s.nt.2,
  fun W W' b h s => by
    have h1 := h p (by simp) s.nt.1
    have h2 := h c (by simp) s.nt.2
    exact s.keep h1.1 h2.1 h1.2 h2.2⟩

def sp__law_begun (K : Fg) : Sp := fun vs H Q _ => ∃ (W : Wd) (a : Addr) (ns : List Int), W.H = H ∧ vs = [.ref a] ∧ SqL K W.B a (ns.map V.int) ∧ ns.length ≤ 63 ∧
  ∀ p c W', Grow W W' → St W' p c → W.H p = none → W.H c = none → Q (.ref p) W'.H
theorem len__law_begun {K : Fg} {vs : List V} {H : Hp} {Q : VK} {E : XK} (h : sp__law_begun K vs H Q E) : vs.length = ["_law_script"].length := by
  obtain ⟨W, a, ns, _, rfl, _⟩ := h
  rfl
/-- _law_begun: the slots 0 _law_script, 1 _law_cells, 2 _law_cell -/
abbrev n__law_begun : List Str := ["_law_script", "_law_cells", "_law_cell"]
def t__law_begun (K : Fg) : TS := (tSeq (tAsg (tLc (iList K (tVar 0)) (gName 2) tYes (tCB rAbs (tCons (tVar 2) tNil)) [2]) (gName 1))
  (tSeq (tIfS (tTest (tOp (rEqT K false) (tVar 1) (tLst tNil))) (tAsg (tLst (tCons (tC (.int 1)) tNil)) (gName 1)) tNext)
  (tRet (tLst (tCons (tVar 1) (tCons (tC (.int 0)) (tCons (tC (.int 1)) tNil)))))))
def sp__law_draw (K : Fg) : Sp := fun vs H Q _ => ∃ (W : Wd) (p c : Addr) (n : Int), W.H = H ∧ vs = [.ref p, .int n] ∧ St W p c ∧ 0 < n ∧ n < 1073741824 ∧
  ∀ r W', 0 ≤ r → r < n → Md [p, c] W W' → St W' p c → Q (.int r) W'.H
theorem len__law_draw {K : Fg} {vs : List V} {H : Hp} {Q : VK} {E : XK} (h : sp__law_draw K vs H Q E) : vs.length = ["_law_state", "_law_many"].length := by
  obtain ⟨W, p, c, n, _, rfl, _⟩ := h
  rfl
/-- _law_draw: the slots 0 _law_state, 1 _law_many, 2 _law_cells, 3 _law_at, 4 _law_cell -/
abbrev n__law_draw : List Str := ["_law_state", "_law_many", "_law_cells", "_law_at", "_law_cell"]
def t__law_draw (K : Fg) : TS := (tSeq (tAsg (tOp (rIxL K) (tVar 0) (tC (.int 0))) (gName 2))
  (tSeq (tAsg (tOp oMod (tOp (rIxL K) (tVar 0) (tC (.int 1))) (tCB (rLen K) (tCons (tVar 2) tNil))) (gName 3))
  (tSeq (tAsg (tOp (rIxL K) (tVar 2) (tVar 3)) (gName 4))
  (tSeq (tIfS (tTest (tOp oGe (tVar 4) (tOp oPow (tC (.int 10)) (tC (.int 18))))) (tSeq (tAsg (tOp oDiv (tVar 4) (tVar 1)) (gSub (tVar 2) (tVar 3) rSetL))
  (tRet (tOp oMod (tVar 4) (tVar 1)))) tNext)
  (tSeq (tAsg (tOp oAdd (tOp (rIxL K) (tVar 0) (tC (.int 1))) (tC (.int 1))) (gSub (tVar 0) (tC (.int 1)) rSetL))
  (tSeq (tAsg (tOp oMod (tOp oAdd (tOp oAdd (tOp oMul (tOp (rIxL K) (tVar 0) (tC (.int 2))) (tC (.int 48271))) (tVar 4)) (tC (.int 12345))) (tC (.int 2147483647))) (gSub (tVar 0) (tC (.int 2)) rSetL))
  (tRet (tOp oMod (tOp oDiv (tOp oMod (tOp oMul (tOp (rIxL K) (tVar 0) (tC (.int 2))) (tOp (rIxL K) (tVar 0) (tC (.int 2)))) (tC (.int 2147483629))) (tC (.int 16))) (tVar 1)))))))))
def sp__law_pick (K : Fg) : Sp := fun vs H Q _ => ∃ (W : Wd) (p c b : Addr) (ys : List V), W.H = H ∧ vs = [.ref p, .ref b] ∧ St W p c ∧ W.B b = some (.lst ys) ∧ ys ≠ [] ∧ ys.length < 100000 ∧
  ∀ y W', y ∈ ys → Md [p, c] W W' → St W' p c → Q y W'.H
theorem len__law_pick {K : Fg} {vs : List V} {H : Hp} {Q : VK} {E : XK} (h : sp__law_pick K vs H Q E) : vs.length = ["_law_state", "_law_some"].length := by
  obtain ⟨W, p, c, b, ys, _, rfl, _⟩ := h
  rfl
/-- _law_pick: the slots 0 _law_state, 1 _law_some -/
abbrev n__law_pick : List Str := ["_law_state", "_law_some"]
def t__law_pick (K : Fg) : TS := (tRet (tOp (rIxL K) (tVar 1) (tCall (sp__law_draw K) [] E0 (tCons (tVar 0) (tCons (tCB (rLen K) (tCons (tVar 1) tNil)) tNil)))))
theorem ev_draw {K : Fg} {W : Wd} {σ : SS} {te : TE} {i : Nat} {p c : Addr} {n : Int} (h1 : σ[i]? = some (some (.ref p))) (hn : EvR (drw p c) K te σ W n) (h0 : 0 < n) (h2 : n < 1073741824) :
    EvP (drw p c) (tCall (sp__law_draw K) [] E0 (tCons (tVar i) (tCons te tNil))) σ W (fun v _ => ∃ r, v = .int r ∧ 0 ≤ r ∧ r < n) := fun W1 g1 Q k =>
  ⟨_, h1, hn W1 g1 _ fun u W2 g2 r => ⟨W2, p, c, n, rfl, by rw [show u = _ from r]; rfl, (show St W2 p c from g2.i), h0, h2, fun r W3 a b g s => k _ W3 (g2.trans ⟨g, s⟩) ⟨r, rfl, a, b⟩⟩⟩
section
variable {K : Fg} {vs : List V} {H : Hp} {Q : VK} {E : XK}
theorem sq_items {a : Addr} {W : Wd} {ns : List Int} (h : SqL K W.B a (ns.map V.int)) {σ : SS} {i : Nat} (hv : σ[i]? = some (some (.ref a))) : EvJ pur K (iList K (tVar i)) σ W ns := fun W1 g1 R k => by
  have s : ∀ W', On W W' → SqL K W'.H a (ns.map V.int) := fun W' o => W'.sub.l ((exExt o.b).l h)
  refine ⟨.ref a, hv, a, rfl, ⟨_, s W1 g1.on⟩, k (Itl K a) W1 g1.rf ⟨fun i W' o hi => ?_, fun i W' v H'' o hi ⟨e1, e2⟩ => ?_, fun i W' o hi => ?_⟩⟩
  · exact ⟨_, V.int ns[i], s W' (g1.on.trans o), by simp [hi]⟩
  · have := e2 _ (s W' (g1.on.trans o))
    rw [List.getElem?_map] at this
    cases q : ns[i]? with
    | none => rw [q] at this; cases this
    | some z =>
      rw [q] at this
      exact ⟨z, W', e1.symm, .refl _ _, rfl, (Option.some.inj this).symm⟩
  · exact ⟨_, s W' (g1.on.trans o), by simpa using hi⟩
theorem rd__law_begun (h : sp__law_begun K vs H Q E) : t__law_begun K { nx := fun _ H' => Q .non H', rt := Q } (start n__law_begun vs) H := by
  obtain ⟨W, a, ns, rfl, rfl, hs, hl, k⟩ := h
  show t__law_begun K _ [some (.ref a), none, none] W.H
  -- cells = [abs(cell) for cell in script]
  refine q_asgN (ε := pur) (xs := ns.map fun n => if n < 0 then -n else n) (en_lcN (sq_items hs rfl).i (fun x v W' hx g r => ev_cb1 (ev_var rfl r) rc_abs) (by omega)) trivial fun p1 vs1 W1 g1 f1 n1 e1 r1 => ?_
  have ei1 : vs1 = (ns.map fun n => if n < 0 then -n else n).map V.int := reps_int r1
  subst ei1
  have fin : ∀ (W2 : Wd) (cs : List Int) (c : Addr), Grow W W2 → W.H c = none → W2.B c = none → W2.H c = some (.lst (cs.map V.int)) → cs ≠ [] → (∀ x ∈ cs, 0 ≤ x) →
      tRet (tLst (tCons (tVar 1) (tCons (tC (V.int 0)) (tCons (tC (V.int 1)) tNil)))) { nx := fun _ H' => Q .non H', rt := Q } [some (.ref a), some (.ref c), none] W2.H := fun W2 cs c g f n e hne hp => by
    refine ⟨_, rfl, Evl.sz_of (by show 3 ≤ 100000; decide), fun p hp' => ?_⟩
    have npc : p ≠ c := fun z => by rw [z, e] at hp'; cases hp'
    exact k p c (W2.put p _ (W2.free hp')) (g.trans (W2.grow_put hp')) ⟨W2.free hp', n, npc, 0, 1, cs, upd_same, (upd_ne npc.symm).trans e, hne, hp, by decide, by decide, by decide⟩ (by
      cases q : W.H p with
      | none => rfl
      | some o => exact absurd hp' (g.d p (by rw [q]; exact fun z => by cases z))) f
  -- if cells == []
  refine ⟨_, rfl, Evl.sz_of (by show 0 ≤ 100000; decide), fun pe hpe => ⟨List Int, inferInstance, inferInstance, ns.map fun n => if n < 0 then -n else n, [], ?_, ?_, by decide, _, rfl, ?_⟩⟩
  · have ne : p1 ≠ pe := fun z => by rw [z, hpe] at e1; cases e1
    exact PyD.dp (α := List Int) ⟨p1, _, rfl, (upd_ne ne).trans e1, int_reps _⟩
  · exact PyD.dp (α := List Int) ⟨pe, _, rfl, upd_same, .nil⟩
  · have g2 : Grow W1 (W1.put pe (.lst []) (W1.free hpe)) := W1.grow_put hpe
    have m2 := g2.mut (by simp) e1 n1
    refine ite2 (fun hb => ?_) (fun hb => ?_)
    · refine ⟨Evl.sz_of (by show 1 ≤ 100000; decide), fun p hp => ?_⟩
      have hp0 : (W1.put pe (.lst []) (W1.free hpe)).H p = none := hp
      refine fin ((W1.put pe (.lst []) (W1.free hpe)).put p (.lst [.int 1]) (Wd.free _ hp0)) [1] p ((g1.pure.trans g2).trans (Wd.grow_put _ hp0)) ?_ (Wd.free (W1.put pe (.lst []) (W1.free hpe)) hp0) upd_same (by simp) (by simp)
      cases q : W.H p with
      | none => rfl
      | some o => exact absurd hp0 ((g1.pure.trans g2).d p (by rw [q]; exact fun z => by cases z))
    · refine fin (W1.put pe (.lst []) (W1.free hpe)) _ p1 (g1.pure.trans g2) f1 m2.2 m2.1 (of_decide_eq_false (by simpa using hb)) ?_
      intro x hx
      simp only [List.mem_map] at hx
      obtain ⟨n, _, rfl⟩ := hx
      split <;> omega
theorem rd__law_draw (h : sp__law_draw K vs H Q E) : t__law_draw K { nx := fun _ H' => Q .non H', rt := Q } (start n__law_draw vs) H := by
  obtain ⟨W, p, c, n, rfl, rfl, s, hn, hn2, k⟩ := h
  obtain ⟨a, m, cs, h1, h2, hne, hpos, ha, hm, hm2⟩ := id s.ex
  show t__law_draw K _ [some (.ref p), some (.int n), none, none, none] W.H
  have hlen : 0 < cs.length := List.length_pos_iff.mpr hne
  have hlenI : (0 : Int) < (cs.length : Int) := by omega
  obtain ⟨j, hj, hj2⟩ : ∃ j : Nat, a % (cs.length : Int) = (j : Int) ∧ j < cs.length := by
    have e1 := Int.emod_nonneg a (show (cs.length : Int) ≠ 0 by omega)
    have e2 := Int.emod_lt_of_pos a hlenI
    exact ⟨(a % (cs.length : Int)).toNat, by omega, by omega⟩
  have hx : (cs.map V.int)[j]? = some (V.int cs[j]) := by simp [hj2]
  have hx0 : 0 ≤ cs[j] := hpos _ (List.getElem_mem _)
  -- cells = state[0]; at = state[1] % len(cells); cell = cells[at]
  refine ⟨_, rfl, p, _, 0, _, rfl, rfl, SqL.of h1, rfl, ?_⟩
  refine ⟨_, rfl, p, _, 1, _, rfl, rfl, SqL.of h1, rfl, _, rfl, c, _, rfl, .inl (SqL.of h2), _, _, rfl, rfl, by rw [List.length_map]; exact hlenI, ?_⟩
  simp only [List.length_map, hj, gName]
  refine ⟨_, rfl, _, rfl, c, _, _, _, rfl, rfl, SqL.of h2, atI_nat hx, ?_⟩
  -- if cell >= 10 ** 18
  refine ⟨_, rfl, _, _, rfl, rfl, ⟨by decide, by decide, by decide⟩, _, _, rfl, rfl, _, rfl, ?_⟩
  refine ite2 (fun hc => ?_) (fun hc => ?_)
  · refine ⟨_, rfl, _, rfl, _, _, rfl, rfl, ⟨hn, hn2⟩, _, rfl, _, rfl, c, _, _, j, rfl, rfl, h2, by rw [List.length_map]; exact Evl.ixN_nat hj2, ?_⟩
    refine ⟨_, rfl, _, rfl, _, _, rfl, rfl, hn, ?_⟩
    refine k _ (W.put c _ s.bc) (Int.emod_nonneg _ (by omega)) (Int.emod_lt_of_pos _ hn) ((md_put s.bc).mono (by intro x; simp; exact fun h => .inr h)) ⟨s.bp, s.bc, s.ne, a, m, cs.set j (cs[j] / n), ?_, ?_, ?_, ?_, ha, hm, hm2⟩
    · show upd W.H c _ p = _
      rw [upd_ne s.ne]; exact h1
    · show upd W.H c _ c = _
      rw [upd_same, List.map_set]
    · intro z
      apply hne
      have : (cs.set j (cs[j] / n)).length = 0 := by rw [z]; rfl
      rw [List.length_set] at this
      exact List.length_eq_zero_iff.mp this
    · intro x hx'
      rcases List.mem_or_eq_of_mem_set hx' with z | z
      · exact hpos x z
      · rw [z]; exact Int.ediv_nonneg hx0 (by omega)
  · refine ⟨_, rfl, p, _, 1, _, rfl, rfl, SqL.of h1, rfl, _, _, rfl, rfl, _, rfl, p, _, _, 1, rfl, rfl, h1, rfl, ?_⟩
    refine ⟨_, rfl, p, _, 2, _, rfl, rfl, SqL.of upd_same, rfl, _, _, rfl, rfl, .inl ⟨by omega, by omega⟩, _, rfl, _, _, rfl, rfl, _, _, rfl, rfl, _, _, rfl, rfl, by show (0 : Int) < 2147483647; decide, _, rfl, p, _, _, 2, rfl, rfl, upd_same, rfl, ?_⟩
    have m0 := Int.emod_nonneg (m * 48271 + cs[j] + 12345) (show (2147483647 : Int) ≠ 0 by decide)
    have m1 := Int.emod_lt_of_pos (m * 48271 + cs[j] + 12345) (show (0 : Int) < 2147483647 by decide)
    refine ⟨_, rfl, p, _, 2, _, rfl, rfl, SqL.of upd_same, rfl, _, rfl, p, _, 2, _, rfl, rfl, SqL.of upd_same, rfl, _, _, rfl, rfl, .inl ⟨by omega, by omega⟩, _, _, rfl, rfl, by show (0 : Int) < 2147483629; decide, _, _, rfl, rfl, ⟨by decide, by decide⟩, _, rfl, _, _, rfl, rfl, hn, ?_⟩
    rw [upd_upd]
    refine k _ (W.put p _ s.bp) (Int.emod_nonneg _ (by omega)) (Int.emod_lt_of_pos _ hn) ((md_put s.bp).mono (by intro x; simp; exact fun h => .inl h)) ⟨s.bp, s.bc, s.ne, a + 1, _, cs, upd_same, ?_, hne, hpos, by omega, m0, m1⟩
    show upd W.H p _ c = _
    rw [upd_ne (Ne.symm s.ne)]; exact h2
theorem rd__law_pick (h : sp__law_pick K vs H Q E) : t__law_pick K { nx := fun _ H' => Q .non H', rt := Q } (start n__law_pick vs) H := by
  obtain ⟨W, p, c, b, ys, rfl, rfl, s, hb, hne, hl, k⟩ := h
  have hlen : 0 < ys.length := List.length_pos_iff.mpr hne
  have hbH : W.H b = some (.lst ys) := W.sub.el hb
  refine ⟨_, rfl, _, rfl, _, rfl, b, _, rfl, .inl (SqL.of hbH), W, p, c, _, rfl, rfl, s, by omega, by omega, fun r W' h0 h1 g s' => ?_⟩
  have hb' : W'.H b = some (.lst ys) := W'.sub.el (g.b _ _ hb)
  obtain ⟨j, rfl⟩ : ∃ j : Nat, r = (j : Int) := ⟨r.toNat, by omega⟩
  have hj : j < ys.length := by omega
  exact ⟨b, ys, j, ys[j], rfl, rfl, SqL.of hb', atI_nat (by simp [hj]), k _ W' (List.getElem_mem _) g s'⟩
end
end B
/-! BY: sorted(set(tuple of texts)), some of them alike -/
namespace BY
open PySem PySem.Spec PyProof.Rows L2
section
variable {P : Program} {w : World} {A : Around} {E : Value → Shared → Prop} {s : Shared} {h h' : Heap} {a : Addr} {S : Str → Bool} {n : Nat}
def txtOf (e : Int × Value) : Str := match e.2 with | .str k _ => k | _ => ""
def IsTxt (w : World) (e : Int × Value) : Prop := ∃ k tk, e.2 = Value.str k tk ∧ e.1 = hashStr w k
/-- a set of texts that can be walked -/
def SetX (w : World) (h : Heap) (a : Addr) (S : Str → Bool) (n : Nat) : Prop :=
  ∃ o es ep t, h.get? a = some o ∧ o.ExactSet ∧ o.data = .set es ep t ∧ (∀ e ∈ es.toList, IsTxt w e) ∧ (es.toList.map txtOf).Nodup ∧ (∀ k, S k = true ↔ k ∈ es.toList.map txtOf) ∧
    es.size < scanBound ∧ t.fits es.size = true ∧ es.size = n ∧ Ris t.place.toList ∧ (w.params.followText "set-order" = true ∨ t.led = true)
theorem SetX.at (R : SetX w h a S n) (k : ∀ o, h.get? a = some o → h'.get? a = some o) : SetX w h' a S n := by
  obtain ⟨o, es, ep, t, ho, r⟩ := R
  exact ⟨o, es, ep, t, k o ho, r⟩
theorem SetX.congr {S' : Str → Bool} (R : SetX w h a S n) (e : ∀ k, S' k = S k) : SetX w h a S' n := by
  rw [show S' = S from funext e]; exact R
theorem txt_elems {l : List (Int × Value)} (g : ∀ e ∈ l, IsTxt w e) : ElemsOf (PySem.strKind P w) l := fun e he => by
  obtain ⟨k, tk, h1, h2⟩ := g e he
  exact ⟨⟨k, by rw [h1]; exact strKind_is P w k tk, h2⟩, by rw [h1] <;> rfl⟩
theorem txt_is {e : Int × Value} (g : IsTxt w e) (k : Str) : (PySem.strKind P w).is k e.2 = true ↔ txtOf e = k := by
  obtain ⟨k0, tk, h1, _⟩ := g
  unfold txtOf
  rw [h1]
  show ((k0 == k) = true) ↔ k0 = k
  exact beq_iff_eq
theorem txt_mem {l : List (Int × Value)} (g : ∀ e ∈ l, IsTxt w e) (k : Str) : k ∈ l.map txtOf ↔ ∃ e ∈ l, (PySem.strKind P w).is k e.2 = true := by
  rw [List.mem_map]
  exact ⟨fun ⟨e, he, q⟩ => ⟨e, he, (txt_is (g e he) k).2 q⟩, fun ⟨e, he, q⟩ => ⟨e, he, (txt_is (g e he) k).1 q⟩⟩
/-- a text put in: what is stored -/
theorem setX_end {g : Bool → Sem Unit} (hg : ∀ (b : Bool) (z : Shared) (R : Unit → Shared → Prop), R () z → wpAny (model P w) A (g b) R E z)
    {o : Obj} {es fs : Array (Int × Value)} {ep : Nat} {t u : SetTable} (ho : s.heap.get? a = some o) (hx : o.ExactSet) (hd : o.data = .set es ep t)
    (hS : ∀ (q : Heap) (x : Array (Int × Value)) (e2 : Nat) (y : SetTable), Heap.SameBut a s.heap q → q.get? a = some { o with data := .set x e2 y } → x.toList.Perm fs.toList → y.fits x.size = true → Ris y.place.toList → (w.params.followText "set-order" = true ∨ y.led = true) → SetX w q a S n)
    (hb : fs.size < scanBound) (hf : u.fits fs.size = true) (hr : Ris u.place.toList) (hl : w.params.followText "set-order" = true ∨ u.led = true) {dm : Bool} {R : Option Bool → Shared → Prop}
    (hR : ∀ q, Heap.SameBut a s.heap q → SetX w q a S n → R (some true) { s with heap := q }) :
    wpAny (model P w) A (do
        storeSet a fs u
        if (!dm && u.tooFull) = true then do
            g (relayAll u fs (SetTable.grown fs.size)).2.2
            storeSet a (relayAll u fs (SetTable.grown fs.size)).1 (relayAll u fs (SetTable.grown fs.size)).2.1
            pure (some true)
          else pure (some true)) R E s := by
  refine wpAny_bind (wpAny_storeSet_of ho hd ?_ (fits_of_scanBound hb))
  have h1 := store_at (es' := fs) (t' := u) ho hd
  have b1 := Heap.SameBut.update s.heap a (Obj.putSet fs u)
  split
  · have pm := relayAll_perm u fs (SetTable.grown fs.size)
    have f3 := relayAll_fits u fs (SetTable.grown fs.size)
    have r3 := relayAll_ris u fs (SetTable.grown fs.size)
    have l3 := relayAll_led u fs (SetTable.grown fs.size)
    generalize relayAll u fs (SetTable.grown fs.size) = Z at pm f3 r3 l3 ⊢
    obtain ⟨gs, v, gave⟩ := Z
    dsimp only at pm f3 r3 l3 ⊢
    have sz : gs.size = fs.size := by rw [← Array.length_toList, pm.length_eq, Array.length_toList]
    refine wpAny_bind (hg _ _ _ ?_)
    refine wpAny_bind (wpAny_storeSet_of h1 rfl ?_ (fits_of_scanBound (sz ▸ hb)))
    have sb := b1.trans (Heap.SameBut.update _ a (Obj.putSet gs v))
    have h2 := store_at (es' := gs) (t' := v) h1 rfl
    exact wpAny_pure (hR _ sb (hS _ gs _ v sb h2 pm f3 r3 (hl.imp id fun z => by rw [l3]; exact z)))
  · exact wpAny_pure (hR _ b1 (hS _ fs _ u b1 h1 (List.Perm.refl _) hf hr hl))
theorem setX_add {k : Str} {tk : Tok} {Q : Bool → Shared → Prop} (R : SetX w s.heap a S n) (room : n + 1 < scanBound)
    (hQ : ∀ q, Heap.SameBut a s.heap q → SetX w q a (fun j => S j || decide (j = k)) (if S k = true then n else n + 1) → Q (!S k) { s with heap := q }) :
    wpAny (model P w) A (setAddHashed a (.str k tk) ((PySem.strKind P w).hash k)) Q E s := by
  obtain ⟨o, es, ep, t, ho, hex, hd, g, nd, hm, hb, hf, hn, hr, hl⟩ := R
  have hkey : (PySem.strKind P w).is k (.str k tk) = true := strKind_is P w k tk
  have hsc : (Value.str k tk).scannable = true := rfl
  have hel : ElemsOf (PySem.strKind P w) es.toList := txt_elems g
  unfold setAddHashed setAddHashedIn
  refine wpAny_holding (wpAny_bind (wpAny_setState_of ho hd hf ?_))
  dsimp only
  rw [byScan_of hsc hb hel]
  simp only [↓reduceIte]
  unfold setAddByScan
  refine wpAny_bind (wpAny_bind (wpAny_rule (wpAny_bind (wpAny_setScan_of hkey ho hd hf hel ?_))))
  cases hfi : List.findIdx? (fun e => (PySem.strKind P w).is k e.2) es.toList with
  | some j =>
    dsimp only
    obtain ⟨hj, pj, _⟩ := List.findIdx?_eq_some_iff_getElem.mp hfi
    have hSk : S k = true := (hm k).2 ((txt_mem (P := P) (w := w) g k).2 ⟨es.toList[j], List.getElem_mem hj, pj⟩)
    have q := hQ s.heap (Heap.SameBut.refl a s.heap) ⟨o, es, ep, t, ho, hex, hd, g, nd, fun i => by
      rw [← hm i, Bool.or_eq_true, decide_eq_true_eq]
      exact ⟨fun z => z.elim id (fun e => e ▸ hSk), .inl⟩, hb, hf, by rw [if_pos hSk]; exact hn, hr, hl⟩
    rw [hSk] at q
    exact wpAny_pure (wpAny_pure q)
  | none =>
    dsimp only
    have hnk : k ∉ es.toList.map txtOf := fun z => by
      obtain ⟨e, he, q⟩ := (txt_mem (P := P) (w := w) g k).1 z
      have c := List.findIdx?_eq_none_iff.mp hfi e he
      rw [q] at c
      cases c
    have hSk : S k = false := by
      cases q : S k with
      | false => rfl
      | true => exact absurd ((hm k).1 q) hnk
    have hgw : ∀ (b : Bool) {z : Shared} {R : Unit → Shared → Prop}, R () z → wpAny (model P w) A (match b with | true => rule "set.scan.the-table-gave-way" | false => pure ()) R E z :=
      fun b z R q => by cases b <;> first | exact wpAny_pure q | exact wpAny_rule q
    have pm := layNew_perm t es ((PySem.strKind P w).hash k) (.str k tk)
    have hf1 := layNew_fits t es ((PySem.strKind P w).hash k) (.str k tk)
    have hr1 := layNew_ris t es ((PySem.strKind P w).hash k) (.str k tk) hr
    have hl1 := layNew_led t es ((PySem.strKind P w).hash k) (.str k tk)
    generalize layNew t es ((PySem.strKind P w).hash k) (.str k tk) = Z at pm hf1 hr1 hl1 ⊢
    obtain ⟨es1, t1, wasDummy, gave⟩ := Z
    dsimp only at pm hf1 hr1 hl1 ⊢
    rw [Array.toList_push] at pm
    have pc : es1.toList.Perm (((PySem.strKind P w).hash k, Value.str k tk) :: es.toList) := pm.trans (List.perm_append_singleton _ _)
    have hsz : es1.size = n + 1 := by rw [← Array.length_toList, pc.length_eq, List.length_cons, Array.length_toList, hn]
    have hb1 : es1.size < scanBound := by rw [hsz]; exact room
    have hled : w.params.followText "set-order" = true ∨ t1.led = true := hl.imp id fun z => by rw [hl1]; exact z
    have all : ∀ (q : Heap) (x : Array (Int × Value)) (e2 : Nat) (y : SetTable), Heap.SameBut a s.heap q → q.get? a = some { o with data := .set x e2 y } → x.toList.Perm es1.toList → y.fits x.size = true → Ris y.place.toList → (w.params.followText "set-order" = true ∨ y.led = true) → SetX w q a (fun j => S j || decide (j = k)) (n + 1) := fun q x e2 y _ e3 px f r l => by
      have pz : x.toList.Perm (((PySem.strKind P w).hash k, Value.str k tk) :: es.toList) := px.trans pc
      have pk : (x.toList.map txtOf).Perm (k :: es.toList.map txtOf) := pz.map txtOf
      have sx : x.size = n + 1 := by rw [← Array.length_toList, pz.length_eq, List.length_cons, Array.length_toList, hn]
      refine ⟨_, x, e2, y, e3, hex, rfl, fun e he => ?_, pk.nodup_iff.mpr (List.nodup_cons.mpr ⟨hnk, nd⟩), fun i => ?_, by rw [sx]; exact room, f, sx, r, l⟩
      · rcases List.mem_cons.mp (pz.mem_iff.mp he) with z | z
        · rw [z]; exact ⟨k, tk, rfl, rfl⟩
        · exact g e z
      · rw [pk.mem_iff, List.mem_cons, Bool.or_eq_true, decide_eq_true_eq, hm i]
        exact Or.comm
    have fin : ∀ q, Heap.SameBut a s.heap q → SetX w q a (fun j => S j || decide (j = k)) (n + 1) → Q true { s with heap := q } := fun q sb r => by
      have z := hQ q sb
      rw [hSk] at z
      exact z r
    refine wpAny_bind (hgw _ ?_)
    split
    · refine wpAny_bind ?_
      rw [hashByValue_scannable 8 hsc]
      refine wpAny_pure ?_
      refine setX_end ?_ ho hex hd all hb1 ?_ ?_ ?_ ?_
      · intro b z R q; cases b <;> first | exact wpAny_pure q | exact wpAny_rule q
      · first | (split <;> first | exact hf1 | exact SetTable.fits_plain_off hf1) | exact hf1
      · first | (split <;> exact hr1) | exact hr1
      · first | (split <;> exact hled) | exact hled
      · intro q sb r; dsimp only; exact wpAny_pure (fin q sb r)
    · refine wpAny_bind (wpAny_pure ?_)
      simp only [↓reduceIte]
      refine setX_end ?_ ho hex hd all hb1 hf1 hr1 hled ?_
      · intro b z R q; cases b <;> first | exact wpAny_pure q | exact wpAny_rule q
      · intro q sb r; dsimp only; exact wpAny_pure (fin q sb r)
/-- a set filled by what a walk gives -/
theorem setX_fill {I : Addr} {fp wr : List Addr} {G : Array GenState → Array GenState → Prop} {n : Nat} {Pv : Nat → Value → Prop} {St : Nat → Shared → Prop} {R : Result → Shared → Prop}
    (W : WalksS P w A.in1 I fp wr G n Pv St) (D : Addr) (hD : D ∉ fp) (xs : List Str) (hn : n = xs.length) (hb : xs.length + 1 < scanBound) (hv : ∀ i v, Pv i v → ∃ k t, xs[i]? = some k ∧ v = .str k t) :
    ∀ (m i : Nat) (s : Shared), n - i = m → i ≤ n → St i s → (∃ c, c ≤ i ∧ SetX w s.heap D (fun j => decide (j ∈ xs.take i)) c) →
      (∀ z c, Moved (D :: wr) G s z → c ≤ n → SetX w z.heap D (fun j => decide (j ∈ xs)) c → R (.ok (.ret .none)) z) →
      codeAny (model P w) A (.builtin "set.update.loop" ⟨[.ref D, .ref I], []⟩) R s
  | 0, i, s, hm, hi, st, ⟨c, hc, h⟩, k => by
    obtain rfl : i = n := by omega
    rw [List.take_of_length_le (by omega)] at h
    refine codeAny_builtin F.entry_set_update_loop ?_
    rw [Around.under_plainId F.plain_set_update_loop _]
    show wpAny _ A.in1 (pyNext (.ref I) >>= _) _ _ s
    exact wpAny_bind (W.done s _ _ st fun z mv => wpAny_pure (k z c (mv.mono fun b hb => List.mem_cons_of_mem _ hb) hc (h.at fun o e => mv.heap D o (fun y => hD (W.sub _ y)) e)))
  | m + 1, i, s, hm, hi, st, ⟨c, hc, h⟩, k => by
    have hlt : i < n := by omega
    refine codeAny_builtin F.entry_set_update_loop ?_
    rw [Around.under_plainId F.plain_set_update_loop _]
    show wpAny _ A.in1 (pyNext (.ref I) >>= _) _ _ s
    refine wpAny_bind (W.item i s _ _ hlt st fun v z pv st' mv => ?_)
    obtain ⟨x, t, hx, rfl⟩ := hv i v pv
    have h2 : SetX w z.heap D (fun j => decide (j ∈ xs.take i)) c := h.at fun o e => mv.heap D o (fun y => hD (W.sub _ y)) e
    show wpAny _ A.in1 (holding [Value.str x t] (setAdd D (.str x t)) >>= _) _ _ z
    refine wpAny_bind (wpAny_holding ?_)
    unfold setAdd
    refine wpAny_holding (wpAny_bind ((PySem.strKind P w).pyHash (k := x) (strKind_is _ _ _ _) ?_))
    refine setX_add (s := { z with toks := z.toks + 1 }) h2 (by omega) fun q sb r => ?_
    have r3 : SetX w q D (fun j => decide (j ∈ xs.take (i + 1))) (if decide (x ∈ xs.take i) = true then c else c + 1) := r.congr fun j => by
      rw [List.take_add_one, hx]
      simp [List.mem_append]
    refine wpAny_pure ⟨plainId_quiet F.plain_set_update_loop _, setX_fill W D hD xs hn hb hv m (i + 1) _ (by omega) hlt (W.frame _ z _ _ st' (Nat.le_succ _) fun b hb o e => ?_) ⟨_, by split <;> omega, r3⟩ fun y c2 mv2 hc2 r2 => ?_⟩
    · rw [sb.2 b (fun z : b = D => hD (by rw [← z]; exact hb))]
      exact e
    · refine k y c2 (Moved.trans W.gtrans ((mv.mono fun b hb => List.mem_cons_of_mem _ hb).then_heap (Nat.le_succ _) fun b o hb e => ?_) mv2) hc2 r2
      rw [sb.2 b (fun z => hb (by rw [z]; exact List.mem_cons_self))]
      exact e
abbrev itT (l : Addr) : Obj := { cls := .type "tuple_iterator", data := .fields #[.ref l, .int 0 0] }
set_option maxHeartbeats 8000000 in
theorem set_of_tup {l : Addr} {items : Array Value} {Q : Value → Shared → Prop} {Pz : Heap → Nat → Prop} (hl : s.heap.IsTuple l items)
    (hloop : ∀ R : Result → Shared → Prop, (∀ q tk, Pz q tk → R (.ok (.ret .none)) { s with heap := q, toks := tk }) →
      codeAny (model P w) A.in1.in1 (.builtin "set.update.loop" ⟨[.ref s.heap.objs.size, .ref (s.heap.push (set0 w)).objs.size], []⟩) R { s with heap := (s.heap.push (set0 w)).push (itT l) })
    (h : ∀ q tk, Pz q tk → Q (.ref s.heap.objs.size) { s with heap := q, toks := tk }) : wpAny (model P w) A (call (.type "set") [.ref l]) Q E s := by
  obtain ⟨c, tl, hmro⟩ := F.called_set.mro
  have i1 := F.called_set.made
  have i2 := F.called_set.sub
  have i3 := F.called_set.notType
  have i4 := F.called_set.canCreate
  have i5 := F.typeCall_set_1 (.ref l)
  refine wpAny_call (codeAny_of_tree ?_)
  show wpAny _ _ (callAny (.type "set") _) _ _ _
  refine wpAny_pure ⟨Code.quiet_builtin _ (by decide +kernel), codeAny_builtin F.entry_type_call ?_⟩
  rw [Around.under_plain (weight_type_call_type "set" [.ref l] []) rfl]
  repeat (any_goals (first | assumption | wp_step))
  refine codeAny_mono (code_set_led1 (.ref l) (E := E) (Q₁ := fun x t => x = .ref s.heap.objs.size ∧ t = { s with heap := s.heap.push (set0 w) }) ⟨rfl, rfl⟩) fun r t hr => ?_
  match r, hr with
  | .error e, hr => exact hr
  | .ok .next, hr => exact hr.elim
  | .ok .brk, hr => exact hr.elim
  | .ok .cont, hr => exact hr.elim
  | .ok (.ret x), hr =>
    obtain ⟨rfl, rfl⟩ := hr
    have at0 : (s.heap.push (set0 w)).get? s.heap.objs.size = some (set0 w) := Heap.get?_push_size _ rfl
    have ty0 : Shared.TypeIs { s with heap := s.heap.push (set0 w) } (.ref s.heap.objs.size) "set" := ⟨_, at0, rfl⟩
    have j1 := F.called_set.init.lookup
    have j2 := F.called_set.init.bind (.ref s.heap.objs.size)
    repeat (any_goals (first | assumption | wp_step))
    refine codeAny_mono (codeAny_call_builtin (R := wants (fun r t => r = .none ∧ ∃ q tk, t = { s with heap := q, toks := tk } ∧ Pz q tk) E) F.called_set.init.plain F.entry_set_init (check_set_init_1 ty0 ?_)) fun r t hr => ?_
    · obtain ⟨⟨oc, od, oda, osl⟩, ho, hc, ne, hd⟩ := hl
      simp only at hc hd
      subst hc
      subst hd
      have ho' : (s.heap.push (set0 w)).get? l = some { cls := .type "tuple", dict := od, data := .seq items ne, slots := osl } := Heap.get?_push_of_some _ ho
      have k1 := F.sub_tuple_set
      have k2 := F.sub_tuple_frozenset
      have k3 : (Value.type "tuple" == Value.type "dict") = false := by decide
      have il : (s.heap.push (set0 w)).IsTuple l items := ⟨_, ho', rfl, ne, rfl⟩
      unfold Builtin.«set.__init__» noKeywords Builtin.Frozenset.updateFrom
      generalize hPI : pyIter = PI
      wp_walk
      subst hPI
      refine wpAny_pyIter_tuple il (wpAny_bind (wpAny_runValue (hloop _ fun q tk z => ?_)))
      show wpAny _ _ _ _ _ _
      refine wpAny_pure ?_
      show wpAny _ _ (ret Value.none) _ _ _
      exact wpAny_pure ⟨rfl, q, tk, rfl, z⟩
    · match r, hr with
      | .error e, hr => exact hr
      | .ok .next, hr => exact hr.elim
      | .ok .brk, hr => exact hr.elim
      | .ok .cont, hr => exact hr.elim
      | .ok (.ret x), hr =>
        obtain ⟨rfl, q, tk, rfl, z⟩ := hr
        repeat (any_goals (first | assumption | wp_step))
        exact h _ _ z
theorem strs_at : ∀ {vs : List Value} {xs : List Str}, StrsAre vs xs → ∀ (i : Nat) (v : Value), vs[i]? = some v → ∃ k t, xs[i]? = some k ∧ v = .str k t
  | _, _, .nil, i, v, e => by simp at e
  | _, _, .cons y t r, 0, v, e => by simp at e; exact ⟨y, t, rfl, e.symm⟩
  | _, _, .cons y t r, i + 1, v, e => by
    rw [List.getElem?_cons_succ] at e ⊢
    exact strs_at r i v e
theorem strs_len : ∀ {vs : List Value} {xs : List Str}, StrsAre vs xs → vs.length = xs.length
  | _, _, .nil => rfl
  | _, _, .cons y t r => congrArg (· + 1) (strs_len r)
/-- set(t), a tuple of texts -/
theorem set_tupS {l : Addr} {items : Array Value} {xs : List Str} {Q : Value → Shared → Prop} (hh : A.handled = none) (hl : s.heap.IsTuple l items) (hit : StrsAre items.toList xs) (hb : xs.length + 1 < scanBound)
    (h : ∀ (q : Heap) (tk c : Nat), SetX w q s.heap.objs.size (fun j => decide (j ∈ xs)) c → c ≤ xs.length → (∀ b o, s.heap.get? b = some o → q.get? b = some o) → Q (.ref s.heap.objs.size) { s with heap := q, toks := tk }) :
    wpAny (model P w) A (call (.type "set") [.ref l]) Q E s := by
  have hn : items.size = xs.length := by
    have := strs_len hit
    rwa [Array.length_toList] at this
  have lt : l < s.heap.objs.size := by
    obtain ⟨o, ho, _⟩ := hl
    exact Heap.lt_size ho
  have sz : (s.heap.push (set0 w)).objs.size = s.heap.objs.size + 1 := Heap.size_push ..
  have at0 : (s.heap.push (set0 w)).get? s.heap.objs.size = some (set0 w) := Heap.get?_push_size _ rfl
  have il : (s.heap.push (set0 w)).IsTuple l items := hl.push _
  refine set_of_tup (Pz := fun q tk => ∃ c, SetX w q s.heap.objs.size (fun j => decide (j ∈ xs)) c ∧ c ≤ xs.length ∧ ∀ b o, s.heap.get? b = some o → q.get? b = some o) hl (fun R k => ?_) fun q tk ⟨c, q1, q2, q3⟩ => h q tk c q1 q2 q3
  refine setX_fill ((Walks.tuple (by simp [hh]) (s.heap.push (set0 w)).objs.size l (by rw [sz]; exact Nat.ne_of_lt (Nat.lt_succ_of_lt lt)) items).toS) s.heap.objs.size (by rw [sz]; simp only [List.mem_cons, List.not_mem_nil, or_false, not_or]; exact ⟨Nat.ne_of_lt (Nat.lt_succ_self _), Nat.ne_of_gt lt⟩) xs hn hb
    (fun i v hv => strs_at hit i v (by rw [Array.getElem?_toList]; exact hv)) items.size 0 _ (by omega) (Nat.zero_le _)
    ⟨⟨_, Heap.get?_push_size _ rfl, rfl, rfl⟩, il.push _⟩ ⟨0, Nat.le_refl _, ⟨_, #[], 0, _, Heap.get?_push_of_some _ at0, ⟨rfl, rfl, rfl⟩, rfl, (fun e he => by simp at he), (by simp), (fun k => by simp), (by decide), (by rfl), rfl, List.Pairwise.nil, ?_⟩⟩ fun z c m hc hS => ?_
  · show _ ∨ (!w.params.followText "set-order") = true
    cases w.params.followText "set-order"
    · exact .inr rfl
    · exact .inl rfl
  · obtain ⟨h', g', d', tk', os'⟩ := z
    obtain rfl : g' = s.gens := m.gens
    obtain rfl : d' = s.drawn := m.drawn
    obtain rfl : os' = s.os := m.os
    refine k h' tk' ⟨c, hS, by rw [← hn]; exact hc, fun b o e => ?_⟩
    have hb0 := Heap.lt_size e
    exact m.heap b o (by rw [sz]; simp only [List.mem_cons, List.not_mem_nil, or_false, not_or]; exact ⟨Nat.ne_of_lt hb0, Nat.ne_of_lt (Nat.lt_succ_of_lt hb0)⟩) (Heap.get?_push_of_some _ (Heap.get?_push_of_some _ e))
theorem strs_map : ∀ vs : List Value, (∀ v ∈ vs, ∃ k tk, v = Value.str k tk) → StrsAre vs (vs.map fun v => txtOf (0, v))
  | [], _ => .nil
  | v :: vs, h => by
    obtain ⟨k, tk, rfl⟩ := h v List.mem_cons_self
    exact .cons k tk (strs_map vs fun u hu => h u (List.mem_cons_of_mem _ hu))
/-- sorted of a set of texts -/
theorem sorted_setX {Q : Value → Shared → Prop} (R : SetX w s.heap a S n) (hh : A.handled = none) (h64 : n < 64)
    (hQ : ∀ z p (out : Array Value) (c : Nat) (ys : List Str), (∀ b o, s.heap.get? b = some o → z.heap.get? b = some o) → z.gens = s.gens → z.os = s.os → s.heap.objs.size ≤ p →
      z.heap.get? p = some (seqObj "list" out c) → StrsAre out.toList ys → sortedS ys = true → ys.Nodup → (∀ k, k ∈ ys ↔ S k = true) → ys.length = n → Q (.ref p) z) :
    wpAny (model P w) A (call (.builtin "sorted") [.ref a]) Q E s := by
  obtain ⟨o, es, ep, t, ho, hex, hd, g, nd, hm, hb, hf, hn, hr, hl⟩ := R
  refine Calls.call_function_entry kind_sorted plain_sorted entry_sorted (args_sorted1 _) ?_
  unfold Builtin.«sorted»
  refine wpAny_bind (m := checkCount "sorted" 1 1 _) (wpAny_pure ?_)
  refine wpAny_bind (collect_set (A := A.in1) hh ⟨o, ho, hex.1, hd⟩ hf hb hr hl fun s1 vs k1 hz g1 o1 pm => ?_)
  have hvl : vs.length = n := by rw [pm.length_eq, List.length_map, Array.length_toList]; exact hn
  have hS : StrsAre vs (vs.map fun v => txtOf (0, v)) := strs_map vs fun v hv => by
    obtain ⟨e, he, q⟩ := List.mem_map.mp (pm.mem_iff.mp hv)
    obtain ⟨k, tk, h1, _⟩ := g e he
    exact ⟨k, tk, by rw [← q]; exact h1⟩
  have pk : (vs.map fun v => txtOf (0, v)).Perm (es.toList.map txtOf) := by
    have q := pm.map fun v => txtOf (0, v)
    rw [List.map_map] at q
    exact q
  refine wpAny_bind (wpAny_newList ?_ (by rw [hvl]; exact small64 h64))
  have hoL : (s1.heap.push (seqObj "list" vs.toArray 0)).get? s1.heap.objs.size = some (seqObj "list" vs.toArray 0) := Heap.get?_push_size _ rfl
  refine wpAny_bind (wpAny_holding (wpAny_call_entry slot_list_sort ⟨_, hoL, rfl⟩ entry_list_sort (list_sort_treeK strKind_oneLt hoL hS.keysOf (fun v₁ v₂ rest e => keyKind_strs (by rw [← e]; exact hS)) (by rw [hvl]; exact h64) fun st' a1 a2 => ⟨_, rfl, ?_⟩) (args_list_sort _)))
  obtain ⟨ys, h1, h2, h3⟩ := sorted_out_str hS a1 a2
  obtain ⟨e', he'⟩ := PyProof.Rows.sortedHeap_at (vs := vs) (out := (arrOf st').map (·.2)) hoL
  have pn : ys.Perm (es.toList.map txtOf) := h2.trans pk
  refine wpAny_pure ⟨_, rfl, hQ _ s1.heap.objs.size ((arrOf st').map (·.2)) e' ys (fun b u e => ?_) g1 o1 hz he' h1 h3 (pn.nodup_iff.mpr nd) (fun k => by rw [pn.mem_iff, hm k]) (by rw [pn.length_eq, List.length_map, Array.length_toList]; exact hn)⟩
  have q := k1 b u e
  have hlt := Heap.lt_size q
  show (sortedHeap _ _ _ ((arrOf st').map (·.2))).get? b = some u
  rw [sortedHeap_old (Nat.ne_of_lt hlt) (by rw [size_push']; exact Nat.lt_succ_of_lt hlt)]
  exact Heap.get?_push_of_some _ q
end
section
variable {X : Cx}
/-- sorted(set(t)), a tuple of texts -/
def tSortSetS (K : PySem.W.Frag) (ta : TE) : TE := fun σ H Q => ta σ H fun x H1 => ∃ (l : Addr) (xs : List Str), x = .ref l ∧ SqT K H1 l (xs.map V.str) ∧ xs.length < 64 ∧
  ∀ (ys : List Str) (p : Addr), ys.Nodup → sortedS ys = true → (∀ k, k ∈ ys ↔ k ∈ xs) → H1 p = none → Q (.ref p) (upd H1 p (.lst (ys.map V.str)))
theorem pe_sortSetS {a : Expr} {ta : TE} {p p2 q pos : Pos} (hg : Gl X "sorted") (hm : X.mg "sorted" = none) (hg2 : Gl X "set") (hm2 : X.mg "set" = none) (ha : PE X a ta) (hc : X.calm = true := by rfl)
    (na : starEach [a] X.env = (false, eval a X.env) :: starEach [] X.env := by rfl) : PE X (.Call (.Name "sorted" p) [.Call (.Name "set" p2) [a] [] q] [] pos) (tSortSetS X.K ta) := by
  refine ⟨fun pins s σ H Q I h => ?_⟩
  refine Call_ (ld_blt I hg hm (show bootBuiltins "sorted" = some (.builtin "sorted") by decide +kernel) ?_)
  refine PyProof.Rows.callWith_builtin1 (PyProof.Rows.args_cons ?_ rfl) rfl rfl
  refine Call_ (ld_blt I hg2 hm2 boot_set ?_)
  refine PyProof.Rows.callWith_type1 (PyProof.Rows.args_cons (thn (ha.run pins s σ H _ I h) fun v s1 ⟨x, H1, I1, r1, q1⟩ => PyProof.Rows.args_nil ?_) na) na rfl
  obtain ⟨l, xs, rfl, hq, hl, q1⟩ := q1
  cases r1
  obtain ⟨its, r, pl, hz⟩ := I1.tuple hq
  refine set_tupS (I1.ok.hd hc) (items := its.toArray) pl (by simpa using r.strs) (by unfold scanBound; omega) fun h' tk c hS hc' hk => ?_
  refine PyProof.Rows.args_nil ?_
  have I2 : Inv X pins σ H1 { s1 with heap := h', toks := tk } := I1.kept hk
  refine sorted_setX hS (I2.ok.hd hc) (by omega) fun z p out c2 ys k g o hp hg' hi hs hnd hm' hl' => ?_
  have hlen' : (ys.map V.str).length ≤ sizeLine := by rw [List.length_map, hl']; exact small64 (by omega)
  have hn : H1 p = none := I2.hok.fresh hp
  have J : Inv X pins σ (upd H1 p (.lst (ys.map V.str))) { ({ s1 with heap := h', toks := tk } : Shared) with heap := z.heap, gens := z.gens, drawn := z.drawn, toks := z.toks } :=
    I2.call (ch := []) (Un.laid k hp hn) (I2.hok.laid k hp ⟨hlen', out.toList, c2, vals_of_strs hi, by rw [Array.toArray_toList]; exact hg'⟩) (by rw [g]; exact I2.bare) (fun _ z => nomatch z)
  have e : z = { ({ s1 with heap := h', toks := tk } : Shared) with heap := z.heap, gens := z.gens, drawn := z.drawn, toks := z.toks } := by
    cases z
    cases o
    rfl
  rw [e]
  exact ⟨.ref p, _, J, rfl, q1 ys p hnd hs (fun k => by rw [hm' k, decide_eq_true_eq]) hn⟩
end
end BY
namespace B
open PySem L2
open PySem.W (Tup T3 T4 Datum DatumOrd)
open Evl (Ex)
/-- none twice -/
def uniqS : List Str → List Str
  | [] => []
  | a :: l => if a ∈ l then uniqS l else a :: uniqS l
theorem uniqS_mem {k : Str} : ∀ {l : List Str}, k ∈ uniqS l ↔ k ∈ l
  | [] => Iff.rfl
  | a :: l => by
    unfold uniqS
    split
    · rename_i h
      rw [uniqS_mem, List.mem_cons]
      exact ⟨.inr, fun z => z.elim (fun e => e ▸ h) id⟩
    · rw [List.mem_cons, List.mem_cons, uniqS_mem]
theorem uniqS_nd : ∀ l : List Str, (uniqS l).Nodup
  | [] => List.Pairwise.nil
  | a :: l => by
    unfold uniqS
    split
    · exact uniqS_nd l
    · rename_i h
      exact List.nodup_cons.mpr ⟨fun z => h (uniqS_mem.mp z), uniqS_nd l⟩
/-- rising, none twice -/
def risB (xs : List Str) : List Str := sortS (uniqS xs)
theorem ris_eq {xs ys : List Str} (hn : ys.Nodup) (hs : ys.Pairwise (fun a b => sle a b = true)) (hm : ∀ k, k ∈ ys ↔ k ∈ xs) : ys = risB xs :=
  sortS_eq ((List.perm_ext_iff_of_nodup hn (uniqS_nd xs)).mpr fun k => by rw [hm k, uniqS_mem]) hs
theorem ris_nd (xs : List Str) : (risB xs).Nodup := (sortS_perm _).nodup_iff.mpr (uniqS_nd xs)
theorem ris_pw (xs : List Str) : (risB xs).Pairwise (fun a b => sle a b = true) := sortS_pw _
theorem ev_sortSetS {K : Fg} {W : Wd} {σ : SS} {ta : TE} {ε : Ef} {xs : Tup Str} (h : EvR ε K ta σ W xs) (hl : xs.items.length < 64) : EvR ε K (BY.tSortSetS K ta) σ W (risB xs.items) := fun W1 g1 Q k => h W1 g1 _ fun v W2 g2 ⟨a, vs, e, s, r⟩ => by
  have e2 := reps_str r
  subst e2
  refine ⟨a, xs.items, e, SqT.of (W2.sub.et s), hl, fun ys p hn hs hm hq => k _ (W2.add p _) (g2.and (W2.grow_add hq)) ⟨p, _, rfl, upd_same, ?_⟩⟩
  rw [ris_eq hn (sorted_pw hs) hm]
  exact str_reps _
end B
/-! BY: len(set(xs)) of texts, some of them alike, a list or a tuple -/
namespace BY
open PySem PySem.Spec PyProof.Rows L2
section
variable {P : Program} {w : World} {A : Around} {E : Value → Shared → Prop} {s : Shared}
/-- set(l), a list of texts -/
theorem set_listX {l : Addr} {items : Array Value} {xs : List Str} {Q : Value → Shared → Prop} (hh : A.handled = none) (hl : s.heap.IsList l items) (hit : StrsAre items.toList xs) (hb : xs.length + 1 < scanBound)
    (h : ∀ (q : Heap) (tk c : Nat), SetX w q s.heap.objs.size (fun j => decide (j ∈ xs)) c → c ≤ xs.length → (∀ b o, s.heap.get? b = some o → q.get? b = some o) → Q (.ref s.heap.objs.size) { s with heap := q, toks := tk }) :
    wpAny (model P w) A (call (.type "set") [.ref l]) Q E s := by
  have hn : items.size = xs.length := by
    have := strs_len hit
    rwa [Array.length_toList] at this
  have lt : l < s.heap.objs.size := by
    obtain ⟨o, ho, _⟩ := hl
    exact Heap.lt_size ho
  have sz : (s.heap.push (set0 w)).objs.size = s.heap.objs.size + 1 := Heap.size_push ..
  have at0 : (s.heap.push (set0 w)).get? s.heap.objs.size = some (set0 w) := Heap.get?_push_size _ rfl
  have il : (s.heap.push (set0 w)).IsList l items := hl.push _
  refine set_of_list (Pz := fun q tk => ∃ c, SetX w q s.heap.objs.size (fun j => decide (j ∈ xs)) c ∧ c ≤ xs.length ∧ ∀ b o, s.heap.get? b = some o → q.get? b = some o) hl (fun R k => ?_) fun q tk ⟨c, q1, q2, q3⟩ => h q tk c q1 q2 q3
  refine setX_fill ((Walks.list (by simp [hh]) (s.heap.push (set0 w)).objs.size l (by rw [sz]; exact Nat.ne_of_lt (Nat.lt_succ_of_lt lt)) items).toS) s.heap.objs.size (by rw [sz]; simp only [List.mem_cons, List.not_mem_nil, or_false, not_or]; exact ⟨Nat.ne_of_lt (Nat.lt_succ_self _), Nat.ne_of_gt lt⟩) xs hn hb
    (fun i v hv => strs_at hit i v (by rw [Array.getElem?_toList]; exact hv)) items.size 0 _ (by omega) (Nat.zero_le _)
    ⟨⟨_, Heap.get?_push_size _ rfl, rfl, rfl⟩, il.push _⟩ ⟨0, Nat.le_refl _, ⟨_, #[], 0, _, Heap.get?_push_of_some _ at0, ⟨rfl, rfl, rfl⟩, rfl, (fun e he => by simp at he), (by simp), (fun k => by simp), (by decide), (by rfl), rfl, List.Pairwise.nil, ?_⟩⟩ fun z c m hc hS => ?_
  · show _ ∨ (!w.params.followText "set-order") = true
    cases w.params.followText "set-order"
    · exact .inr rfl
    · exact .inl rfl
  · obtain ⟨h', g', d', tk', os'⟩ := z
    obtain rfl : g' = s.gens := m.gens
    obtain rfl : d' = s.drawn := m.drawn
    obtain rfl : os' = s.os := m.os
    refine k h' tk' ⟨c, hS, by rw [← hn]; exact hc, fun b o e => ?_⟩
    have hb0 := Heap.lt_size e
    exact m.heap b o (by rw [sz]; simp only [List.mem_cons, List.not_mem_nil, or_false, not_or]; exact ⟨Nat.ne_of_lt hb0, Nat.ne_of_lt (Nat.lt_succ_of_lt hb0)⟩) (Heap.get?_push_of_some _ (Heap.get?_push_of_some _ e))
end
section
variable {X : Cx}
/-- len(set(xs)): as many as there are unlike ones -/
def tLenSetX (K : PySem.W.Frag) (ta : TE) : TE := fun σ H Q => ta σ H fun x H1 => ∃ (l : Addr) (xs : List Str), x = .ref l ∧ (SqL K H1 l (xs.map V.str) ∨ SqT K H1 l (xs.map V.str)) ∧ xs.length ≤ 4000 ∧
  ∀ ys : List Str, ys.Nodup → (∀ k, k ∈ ys ↔ k ∈ xs) → Q (.int (ys.length : Nat)) H1
theorem pe_lenSetX {a : Expr} {ta : TE} {p p2 q pos : Pos} (hg : Gl X "len") (hm : X.mg "len" = none) (hg2 : Gl X "set") (hm2 : X.mg "set" = none) (ha : PE X a ta) (hc : X.calm = true := by rfl)
    (na : starEach [a] X.env = (false, eval a X.env) :: starEach [] X.env := by rfl) : PE X (.Call (.Name "len" p) [.Call (.Name "set" p2) [a] [] q] [] pos) (tLenSetX X.K ta) := by
  refine ⟨fun pins s σ H Q I h => ?_⟩
  refine Call_ (ld_blt I hg hm boot_len ?_)
  refine PyProof.Rows.callWith_builtin1 (PyProof.Rows.args_cons ?_ rfl) rfl rfl
  refine Call_ (ld_blt I hg2 hm2 boot_set ?_)
  refine PyProof.Rows.callWith_type1 (PyProof.Rows.args_cons (thn (ha.run pins s σ H _ I h) fun v s1 ⟨x, H1, I1, r1, q1⟩ => PyProof.Rows.args_nil ?_) na) na rfl
  obtain ⟨l, xs, rfl, hq, hl, q1⟩ := q1
  cases r1
  have done : ∀ (h' : Heap) (tk c : Nat), SetX X.w h' s1.heap.objs.size (fun j => decide (j ∈ xs)) c → c ≤ xs.length → (∀ b o, s1.heap.get? b = some o → h'.get? b = some o) → wpAny (model X.prog X.w) X.A (call (.builtin "len") [.ref s1.heap.objs.size]) (EP X pins σ Q) X.xe { s1 with heap := h', toks := tk } := fun h' tk c hS hc' hk => by
    obtain ⟨o, es, ep, t, ho, hex, hd, _, nd, hm', _, hf, hn, _⟩ := hS
    have I2 : Inv X pins σ H1 { s1 with heap := h', toks := tk } := I1.kept hk
    have e1 : (es.toList.map txtOf).length = es.size := by rw [List.length_map, Array.length_toList]
    exact call_len_set ho hex hd hf (by rw [hn] <;> omega) ⟨.int ((es.toList.map txtOf).length : Nat), H1, I2.tok _, ⟨_, by rw [e1]⟩, q1 _ nd fun k => by rw [← hm' k, decide_eq_true_eq]⟩
  rcases hq with hq | hq
  · obtain ⟨its, r, pl, hz⟩ := I1.list hq
    exact set_listX (I1.ok.hd hc) (items := its.toArray) pl.isList (by simpa using r.strs) (by unfold scanBound; omega) fun h' tk c hS hc' hk => PyProof.Rows.args_nil (done h' tk c hS hc' hk)
  · obtain ⟨its, r, pl, hz⟩ := I1.tuple hq
    exact set_tupS (I1.ok.hd hc) (items := its.toArray) pl (by simpa using r.strs) (by unfold scanBound; omega) fun h' tk c hS hc' hk => PyProof.Rows.args_nil (done h' tk c hS hc' hk)
end
end BY
/-! B: z[lo:hi:k] of a text -/
namespace B
open PySem L2 PySem.Spec PyProof.Rows
def stepS (z : Str) (lo hi : Option Int) (k : Int) : Str := ⟨((Builtin.Str.strSliceIndices lo hi k z.length).filterMap (z.cps[·]?)).toArray⟩
def tStrStep (te : TE) (lo hi : Option Int) (k : Int) : TE := fun σ H Q => te σ H fun x H1 => ∃ z, x = .str z ∧ (stepS z lo hi k).length ≤ sizeLine ∧ Q (.str (stepS z lo hi k)) H1
theorem pe_strStep {X : Cx} {e : Expr} {te : TE} {lo hi : Option Expr} {st : Expr} {ol oh : Option Int} {k : Int} {p3 pos : Pos} (he : PE X e te) (hl : BY.PCn X lo ol) (hh : BY.PCn X hi oh) (hk : BY.PCn X (some st) (some k)) (h0 : k ≠ 0) (h1 : k ≠ 1) : PE X (.Subscript e (.Slice lo hi (some st) p3) pos) (tStrStep te ol oh k) := by
  refine ⟨fun pins s σ H Q I h => ?_⟩
  refine Subscript_ (thn (he.run pins s σ H _ I h) fun v s1 ⟨x, H1, I1, r1, q1⟩ => ?_)
  obtain ⟨z, ex, hz, q⟩ := q1
  subst ex
  obtain ⟨t, rfl⟩ := r1
  refine wpAny_Slice (hl.run pins s1 σ H1 _ I1 fun vl pl s2 I2 => hh.run pins s2 σ H1 _ I2 fun vu pu s3 I3 => hk.run pins s3 σ H1 _ I3 fun vs ps s4 I4 => ?_)
  have I5 : Inv X pins σ H1 { s4 with heap := s4.heap.push { cls := .type "slice", data := .fields #[vl, vu, vs] } } := I4.kept (t' := s4.toks) fun b ob q => Heap.get?_push_of_some _ q
  obtain ⟨l, rfl, rfl⟩ := IsPart.raw pl
  obtain ⟨u, rfl, rfl⟩ := IsPart.raw pu
  obtain ⟨w, rfl, ew⟩ := IsPart.raw ps
  show wpAny (model X.prog X.w) X.A (subscriptTail e (.Slice lo hi (some st) p3) (.str z t) (.ref s4.heap.objs.size)) (EP X pins σ Q) X.xe { s4 with heap := s4.heap.push { cls := .type "slice", data := .fields #[partValue l, partValue u, partValue w] } }
  refine tail_any (ops := [.str z t, .ref s4.heap.objs.size]) (typeIs_str _ _ _) F.slot_str_getitem.lookup ?_ (by with_unfolding_all rfl)
  refine wpAny_getItem_str_slice (l := l) (u := u) (st := w) ⟨_, Heap.get?_push_size _ rfl, rfl, rfl⟩ (by rw [show Option.map (fun x => x.1) w = some k from by first | exact ew | exact ew.symm]; simpa using h0) ?_
  have e1 : sliceMade z t l u w = Made.str (stepS z (l.map (·.1)) (u.map (·.1)) k) := by
    unfold sliceMade slicePicked stepS
    rw [show Option.map (fun x => x.1) w = some k from by first | exact ew | exact ew.symm]
    simp [h1]
  rw [e1]
  exact ⟨hz, .str _, H1, I5.tok _, ⟨_, rfl⟩, q⟩
/-! len(x), x an instance of a class with an own __len__ -/
section
variable {X : Cx} {CX : CXT} {k : Nat} {f C : Addr} {fd : FuncData} {ps : List Str} {sp : Sp} {E : XK}
def rLenOwn (C : Addr) (sp : Sp) (E : XK) : List V → Hp → VK → Prop := fun xs H Q => ∃ a dx fs, xs = [V.ref a] ∧ H a = some (.ins C dx fs) ∧ sp [.ref a] H (fun z H' => ∃ n : Nat, z = .int n ∧ n ≤ sizeLine ∧ Q z H') E
theorem call_lenOwn (F : FnOk X.prog X.w X.K X.mg X.base CX k f fd ps sp) (hr : Room (k + 1) X.A) (hm : Meth X.K C "__len__" f) (hb : Binds X.K fd ps []) (hx : Passes CX X E) : CallR X (.builtin "len") (rLenOwn C sp E) := by
  intro pins s σ H xs us Q I r h
  obtain ⟨a, dx, fs, rfl, ha, q⟩ := h
  obtain ⟨u, rfl, ru⟩ := vals1 r
  obtain rfl : u = Value.ref a := ru
  obtain ⟨mA, J, _⟩ := ins_get I.hok ha
  obtain ⟨od, J, _⟩ := J.look
  have hr1 : Room k X.A.in1 := Room.in1 hr
  have r2 : Vals [V.ref a] ([Value.ref a] ++ []) := .cons (show Value.ref a = Value.ref a from rfl) .nil
  have hl : ([Value.ref a] ++ ([] : List Value)).length = ps.length := F.len _ _ _ _ q
  refine Calls.call_function_entry kind_len plain_len entry_len (args_len1 _) ?_
  unfold Builtin.«len»
  refine wpAny_bind (m := oneArg "len" _) (wpAny_pure ?_)
  refine wpAny_bind (m := callSpecial? (.ref a) (PySem.Str.ofString "__len__")) (PySem.W.special_fn I.kIn J hm.at_ (beq_iff_eq.mp hm.fn) (wpAny_mono (wpAny_call (codeAny_mono (F.run X.A.in1 X.stack s H ⟨[.ref a], []⟩ ([Value.ref a] ++ []) [V.ref a] (fun z H' => ∃ n : Nat, z = .int n ∧ n ≤ sizeLine ∧ Q z H') E hr1 I.env0.in1 (hb s [Value.ref a] I.kIn hl) r2 q) (R' := fun r s' => match r with | .ok (.ret v) => EP X pins σ (fun z H' => ∃ n : Nat, z = .int n ∧ n ≤ sizeLine ∧ Q z H') v s' | .ok _ => False | .error e => X.xe e s') fun r s' hq => ?_)) (fun v s' z => ?_) fun _ _ x => x))
  · cases r with
    | error e => exact hx pins σ H s e s' I hq
    | ok fl =>
      cases fl with
      | ret u => exact I.after hq
      | next => exact False.elim hq
      | brk => exact False.elim hq
      | cont => exact False.elim hq
  · obtain ⟨z', H', I', rz, n, e, hn, qz⟩ := z
    subst e
    obtain ⟨t, rfl⟩ := rz
    have hs : sizeLine = 16777216 := sizeLine_eq
    refine wpAny_bind (wpAny_holding (wpAny_pure ?_))
    refine wpAny_bind (wpAny_letGo ?_)
    show wpAny _ _ (if ((n : Nat) : Int) < 0 then _ else _) _ _ _
    rw [if_neg (by omega)]
    show wpAny _ _ (if ((n : Nat) : Int) ≥ 2 ^ 63 then _ else _) _ _ _
    rw [if_neg (by omega)]
    exact wpAny_bind (wpAny_mkInt (wpAny_pure ⟨_, rfl, .int n, H', I'.tok _, ⟨_, rfl⟩, qz⟩))
end
end B
/-! B: a built-in that keeps one of two rules -/
namespace B
open PySem L2
def rOrB (r1 r2 : List V → Hp → VK → Prop) : List V → Hp → VK → Prop := fun xs H Q => r1 xs H Q ∨ r2 xs H Q
theorem call_orB {X : Cx} {f : Value} {r1 r2 : List V → Hp → VK → Prop} (h1 : CallR X f r1) (h2 : CallR X f r2) : CallR X f (rOrB r1 r2) := by
  intro pins s σ H xs us Q I r h
  rcases h with h | h
  · exact h1 pins s σ H xs us Q I r h
  · exact h2 pins s σ H xs us Q I r h
def rSlQ (K : PySem.W.Frag) : V → Option Int → Option Int → Hp → VK → Prop := fun x lo hi H Q => rSlL K x lo hi H Q ∨ rSlA K x lo hi H Q
theorem sl_seqB {X : Cx} : SlR X (rSlQ X.K) := SlR.or sl_list sl_tupA
def rInTQ (K : Fg) : R2 := fun x y H Q => rInTL K false x y H Q ∨ rInTT K false x y H Q
theorem op_inTQ {X : Cx} (hu : X.A.units + 64 < cLine) : OpR X (compareOp .In) (rInTQ X.K) := OpR.or (op_inTL hu) (op_inTT hu)
end B
/-! letters: words, things of any kind, the class Letters (refusing) -/
namespace B
open PySem L2
open PySem.W (Tup T3 T4 Datum DatumOrd)
open Evl (Ex)
/-- one to six small letters -/
structure IsWord (s : Str) : Prop where
  lo : 1 ≤ s.length
  hi : s.length ≤ 6
  ok : ∀ c ∈ s.cps.toList, 97 ≤ c ∧ c ≤ 122
/-- one to twelve unlike words -/
structure Alpha (names : List Str) : Prop where
  lo : 1 ≤ names.length
  hi : names.length ≤ 12
  nd : names.Nodup
  ok : ∀ n ∈ names, IsWord n
def ranksOf (names : List Str) : List (Str × Int) := names.zip (rng 0 names.length)
theorem zip_sw {α β : Type} : ∀ (l : List α) (m : List β), (l.zip m).map (fun e => (e.2, e.1)) = m.zip l
  | [], m => by simp
  | _ :: _, [] => rfl
  | a :: l, b :: m => by rw [List.zip_cons_cons, List.map_cons, zip_sw l m, List.zip_cons_cons]
theorem ranks_keys (names : List Str) : (ranksOf names).map (·.1) = names := List.map_fst_zip (by rw [rng_len]; exact Nat.le_refl _)
theorem ranks_len (names : List Str) : (ranksOf names).length = names.length := by
  have := congrArg List.length (ranks_keys names)
  rwa [List.length_map] at this
theorem rank_of {names : List Str} {n : Str} (h : n ∈ names) : ∃ i, klook (ranksOf names) n = some i := by
  cases e : klook (ranksOf names) n with
  | some i => exact ⟨i, rfl⟩
  | none => exact absurd (by rw [ranks_keys]; exact h) (klook_none.mp e)
structure LettersC (K : Fg) (C : Addr) : Prop where
  i : ClsI K C
  nr : NoAttr K C "ranks"
/-- letters stand at v, for good -/
def LetAt (K : Fg) (C : Addr) (names : List Str) (v : V) (W : Wd) : Prop :=
  ∃ l dl r, v = .ref l ∧ W.B l = some (.ins C dl (putF "ranks" (.ref r) [])) ∧ DictAt K W (.ref r) (⟨ranksOf names⟩ : Dict Str Int) ∧ Alpha names
section
variable {K : Fg} {C : Addr} {names : List Str} {v : V} {W W' : Wd} {ε : Ef} {S : List Addr}
theorem LetAt.on (h : LetAt K C names v W) (g : On W W') : LetAt K C names v W' := by
  obtain ⟨l, dl, r, e, h1, h2, h3⟩ := h
  exact ⟨l, dl, r, e, g.b _ _ h1, h2.on g, h3⟩
theorem LetAt.g (h : LetAt K C names v W) (g : Md S W W') : LetAt K C names v W' := h.on g.on
theorem LetAt.s (h : LetAt K C names v W) (g : Stp ε W W') : LetAt K C names v W' := h.on g.on
theorem LetAt.al (h : LetAt K C names v W) : Alpha names := let ⟨_, _, _, _, _, _, a⟩ := h; a
/-- what is walked of a text -/
theorem ei_str {σ : SS} {te : TE} {x : Str} (h : EvR ε K te σ W x) : EvJ ε K (iStr te) σ W (signs x) := fun W1 g1 R k => h W1 g1 _ fun v W2 g2 r => by
  have sl : (signs x).length = x.cps.size := by unfold signs; simp
  refine ⟨x, r, k (Its x) W2 g2 ⟨fun i W' _ hi => by rw [sl] at hi; exact hi, fun i W' v H'' _ hi ⟨e1, c, e2, e3⟩ => ⟨⟨#[c]⟩, W', e1.symm, .refl _ _, ?_, e3⟩, fun i W' _ hi => by rw [sl] at hi; exact hi⟩⟩
  unfold signs
  rw [List.getElem?_map, Array.getElem?_toList, e2]; rfl
end
theorem nb_t {b : Bool} (h : (!b) = true) : b = false := by cases b <;> simp_all
theorem nb_f {b : Bool} (h : (!b) = false) : b = true := by cases b <;> simp_all
/-! ### texts -/
abbrev abcT : Str := "abcdefghijklmnopqrstuvwxyz"
def signB (x : Str) : Bool := !(Builtin.Str.occurrences abcT x 0 (abcT).length 1).isEmpty
theorem signB_one (c : Nat) : signB ⟨#[c]⟩ = decide (c ∈ (abcT).cps.toList) := PySem.StrLaws.found_one abcT c
theorem abc_list : (abcT).cps.toList = (List.range 26).map (97 + ·) := by decide +kernel
theorem abc_mem {c : Nat} : c ∈ (abcT).cps.toList ↔ 97 ≤ c ∧ c ≤ 122 := by
  rw [abc_list, List.mem_map]
  constructor
  · rintro ⟨k, hk, rfl⟩
    have := List.mem_range.mp hk
    omega
  · rintro ⟨h1, h2⟩
    exact ⟨c - 97, List.mem_range.mpr (by omega), by omega⟩
def isLB (s : Str) : Bool := (decide (1 ≤ s.length) && decide (s.length ≤ 6)) && (signs s).all signB
theorem signs_all {s : Str} : (signs s).all signB = true ↔ ∀ c ∈ s.cps.toList, 97 ≤ c ∧ c ≤ 122 := by
  unfold signs
  rw [List.all_map, List.all_eq_true]
  refine ⟨fun h c hc => ?_, fun h c hc => ?_⟩
  · have := h c hc
    simp only [Function.comp] at this
    rw [signB_one, decide_eq_true_eq] at this
    exact abc_mem.mp this
  · simp only [Function.comp]
    rw [signB_one, decide_eq_true_eq]
    exact abc_mem.mpr (h c hc)
theorem isLB_iff {s : Str} : isLB s = true ↔ IsWord s := by
  unfold isLB
  rw [Bool.and_eq_true, Bool.and_eq_true, decide_eq_true_eq, decide_eq_true_eq, signs_all]
  exact ⟨fun h => ⟨h.1.1, h.1.2, h.2⟩, fun h => ⟨⟨h.lo, h.hi⟩, h.ok⟩⟩
theorem isLB_word {s : Str} (h : IsWord s) : isLB s = true := isLB_iff.mpr h
/-! ### a thing that may be a row -/
inductive GV
  | l (ds : List PyData)
  | t (ds : List PyData)
  | o (d : PyData)
def gRep (K : Fg) (H : Hp) (v : V) : GV → Prop
  | .l ds => rep K H v ds
  | .t ds => rep K H v (Tup.mk ds)
  | .o d => rep K H v d ∧ kitB (dcls d) "list" = some false ∧ kitB (dcls d) "tuple" = some false
theorem gRep_mono {K : Fg} {H H' : Hp} {v : V} (e : Ext H H') : ∀ {g : GV}, gRep K H v g → gRep K H' v g
  | .l _, h => Py.mono e h
  | .t _, h => Py.mono e h
  | .o _, h => ⟨Py.mono e h.1, h.2⟩
instance : Py GV := ⟨fun K H v g => gRep K H v g, fun e h => gRep_mono e h⟩
def GV.cls : GV → String
  | .l _ => "list" | .t _ => "tuple" | .o d => dcls d
theorem ty_gv {K : Fg} (W1 : Wd) (v : V) : ∀ (g : GV), rep K W1.B v g → TyX K W1.H v (.type g.cls)
  | .l ds, h => ty_lst W1 v (xs := ds) h
  | .t ds, h => ty_tup W1 v (xs := Tup.mk ds) h
  | .o d, h => ty_dt W1 v d (show gRep K W1.B v (.o d) from h).1
def GV.isL : GV → Bool
  | .l _ => true | _ => false
def GV.isT : GV → Bool
  | .t _ => true | _ => false
theorem gv_kL {K : Fg} {H : Hp} {v : V} : ∀ {g : GV}, rep K H v g → kitB g.cls "list" = some g.isL
  | .l _, _ => by show kitB "list" "list" = some true; decide +kernel
  | .t _, _ => by show kitB "tuple" "list" = some false; decide +kernel
  | .o d, h => (show gRep K H v (.o d) from h).2.1
theorem gv_kT {K : Fg} {H : Hp} {v : V} : ∀ {g : GV}, rep K H v g → kitB g.cls "tuple" = some g.isT
  | .l _, _ => by show kitB "list" "tuple" = some false; decide +kernel
  | .t _, _ => by show kitB "tuple" "tuple" = some true; decide +kernel
  | .o d, h => (show gRep K H v (.o d) from h).2.2
def GV.items : GV → List PyData
  | .l ds => ds | .t ds => ds | .o _ => []
def GV.d : GV → PyData
  | .l ds => .list ds | .t ds => .tuple ds | .o d => d
def GV.row (g : GV) : Bool := g.isL || g.isT
def letB : PyData → Bool
  | .str s => isLB s
  | _ => false
def strOf : PyData → Str
  | .str s => s
  | _ => ""
def TxOk : PyData → Prop
  | .str s => s.length ≤ 1000
  | _ => True
structure GOk (g : GV) : Prop where
  ln : g.items.length ≤ 1000
  tx : ∀ d ∈ g.items, TxOk d
def GV.are (g : GV) : Bool := g.row && ((decide (1 ≤ g.items.length) && decide (g.items.length ≤ 12)) && (g.items.all letB && decide ((g.items.map strOf).Nodup)))
theorem letB_str {d : PyData} (h : letB d = true) : d = .str (strOf d) ∧ IsWord (strOf d) := by
  cases d with
  | str s => exact ⟨rfl, isLB_iff.mp h⟩
  | _ => cases h
theorem lets_str : ∀ {ds : List PyData}, ds.all letB = true → ds = (ds.map strOf).map PyData.str
  | [], _ => rfl
  | d :: ds, h => by
    rw [List.all_cons, Bool.and_eq_true] at h
    rw [List.map_cons, List.map_cons, ← lets_str h.2, ← (letB_str h.1).1]
theorem GV.names {g : GV} (h : g.are = true) : Alpha (g.items.map strOf) ∧ g.items = (g.items.map strOf).map PyData.str ∧ g.row = true := by
  unfold GV.are at h
  simp only [Bool.and_eq_true, decide_eq_true_eq] at h
  obtain ⟨h0, ⟨h1, h2⟩, h3, h4⟩ := h
  refine ⟨⟨by rw [List.length_map]; exact h1, by rw [List.length_map]; exact h2, h4, fun n hn => ?_⟩, lets_str h3, h0⟩
  obtain ⟨d, hd, rfl⟩ := List.mem_map.mp hn
  exact (letB_str (List.all_eq_true.mp h3 d hd)).2
theorem rep_strD {K : Fg} {H : Hp} {v : V} {s : Str} (h : rep K H v (PyData.str s)) : v = .str s := by
  cases h with
  | pl h _ => cases h; rfl
theorem reps_strD {K : Fg} {H : Hp} : ∀ {vs : List V} {ns : List Str}, Reps K H vs (ns.map PyData.str) → Reps K H vs ns
  | _, [], .nil => .nil
  | _, n :: ns, .cons a b => .cons (rep_strD a) (reps_strD b)
theorem reps_dStr {K : Fg} {H : Hp} : ∀ {vs : List V} {ns : List Str}, Reps K H vs ns → Reps K H vs (ns.map PyData.str)
  | _, [], .nil => .nil
  | _, n :: ns, .cons a b => .cons (rep_dt (α := Str) a) (reps_dStr b)
theorem rep_listD {K : Fg} {H : Hp} {v : V} {ns : List Str} (h : rep K H v (ns.map PyData.str)) : rep K H v ns := by
  obtain ⟨a, vs, e, s, r⟩ := h
  exact ⟨a, vs, e, s, reps_strD r⟩
theorem rep_dList {K : Fg} {H : Hp} {v : V} {ns : List Str} (h : rep K H v ns) : rep K H v (ns.map PyData.str) := by
  obtain ⟨a, vs, e, s, r⟩ := h
  exact ⟨a, vs, e, s, reps_dStr r⟩
theorem rep_tupD {K : Fg} {H : Hp} {v : V} {ns : List Str} (h : rep K H v (Tup.mk (ns.map PyData.str))) : rep K H v (Tup.mk ns) := by
  obtain ⟨a, vs, e, s, r⟩ := h
  exact ⟨a, vs, e, s, reps_strD r⟩
theorem rep_dTup {K : Fg} {H : Hp} {v : V} {ns : List Str} (h : rep K H v (Tup.mk ns)) : rep K H v (Tup.mk (ns.map PyData.str)) := by
  obtain ⟨a, vs, e, s, r⟩ := h
  exact ⟨a, vs, e, s, reps_dStr r⟩
/-- a list or a tuple of texts -/
def RowS (K : Fg) (H : Hp) (v : V) (ns : List Str) : Prop := rep K H v ns ∨ rep K H v (Tup.mk ns)
theorem RowS.mono {K : Fg} {H H' : Hp} {v : V} {ns : List Str} (e : Ext H H') (h : RowS K H v ns) : RowS K H' v ns := h.imp (Py.mono e) (Py.mono e)
theorem gv_row {K : Fg} {H : Hp} {v : V} {g : GV} {ns : List Str} (h : rep K H v g) (hr : g.row = true) (e : g.items = ns.map PyData.str) : RowS K H v ns := by
  cases g with
  | l ds =>
    have e : ds = ns.map PyData.str := e
    subst e
    exact .inl (rep_listD h)
  | t ds =>
    have e : ds = ns.map PyData.str := e
    subst e
    exact .inr (rep_tupD h)
  | o d => cases hr
section
variable {K : Fg} {W : Wd} {σ : SS} {ε : Ef} {te : TE}
theorem ei_gv {g : GV} (h : EvR ε K te σ W g) (hg : g.row = true) : EvJ ε K (BY.iSeq K te) σ W g.items := by
  cases g with
  | l ds => exact ei_seqL (xs := ds) h
  | t ds => exact ei_seqT (xs := Tup.mk ds) h
  | o d => cases hg
theorem ev_lenG {g : GV} (h : EvR ε K te σ W g) (hg : g.row = true) : EvR ε K (tCB (rLen K) (tCons te tNil)) σ W (g.items.length : Int) := by
  cases g with
  | l ds => exact ev_cb1 (x := ds) h rc_len
  | t ds => exact ev_cb1 (x := Tup.mk ds) h rc_lenT
  | o d => cases hg
theorem ev_listG {g : GV} (h : EvR ε K te σ W g) (hg : g.row = true) : EvR ε K (tCB (rListO K) (tCons te tNil)) σ W g.items := by
  cases g with
  | l ds => exact ev_cb1 (x := ds) h rc_list
  | t ds => exact ev_cb1 (x := Tup.mk ds) h rc_listT
  | o d => cases hg
theorem ev_isG {g : GV} {v : V} (h : EvR ε K te σ W g) : EvR ε K (tCB (rIsiT K) (tCons te (tCons (tTup (tCons (tC (.ty "list")) (tCons (tC (.ty "tuple")) tNil))) tNil))) σ W g.row := by
  refine EvR.is (x := (g.isL || g.isT)) ?_ rfl
  cases g with
  | l ds => exact ev_isi2 (x := ds) h ty_lst (b1 := true) (b2 := false) (by decide +kernel) (by decide +kernel)
  | t ds => exact ev_isi2 (x := Tup.mk ds) h ty_tup (b1 := false) (b2 := true) (by decide +kernel) (by decide +kernel)
  | o d =>
    intro W1 g1 Q k
    refine h W1 g1 _ fun u W2 g2 r => ?_
    obtain ⟨r1, r2, r3⟩ := (show gRep K W2.B u (.o d) from r)
    exact (ev_isi2 (x := d) (te := tC u) (σ := σ) (W := W2) (fun W3 g3 Q3 k3 => k3 u W3 g3.rf (rep_s g3 r1)) (fun W3 u h => ty_dt W3 u d h) (b1 := false) (b2 := false) r2 r3) W2 (.start (g1.trans g2).i) _ fun w W3 g3 rw => k w W3 (g2.trans g3) rw
theorem ei_rowS {v : V} {ns : List Str} {i : Nat} (hv : σ[i]? = some (some v)) (h : RowS K W.B v ns) : EvJ ε K (BY.iSeq K (tVar i)) σ W ns := by
  rcases h with h | h
  · exact ei_seqL (ev_var hv h)
  · exact ei_seqT (xs := Tup.mk ns) (ev_var hv h)
theorem ei_enumS {v : V} {ns : List Str} {i : Nat} (hv : σ[i]? = some (some v)) (h : RowS K W.B v ns) : EvJ ε K (BY.iEnumSeq K (tCons (tVar i) tNil)) σ W ((rng 0 ns.length).zip ns) := by
  rcases h with h | h
  · exact fun W1 g1 R k => .inl (ei_enum (xs := ns) (ev_var hv h) W1 g1 R k)
  · exact fun W1 g1 R k => .inr (ei_enumT (xs := Tup.mk ns) (ev_var hv h) W1 g1 R k)
theorem ev_lenS2 {v : V} {ns : List Str} {i : Nat} (hv : σ[i]? = some (some v)) (h : RowS K W.B v ns) : EvR ε K (tCB (rLen K) (tCons (tVar i) tNil)) σ W (ns.length : Int) := by
  rcases h with h | h
  · exact ev_cb1 (ev_var hv h) rc_len
  · exact ev_cb1 (x := Tup.mk ns) (ev_var hv h) rc_lenT
/-- how many unlike ones there are -/
theorem unlike_lt : ∀ {xs ys : List Str}, ys.Nodup → (∀ k, k ∈ ys → k ∈ xs) → ¬ xs.Nodup → ys.length < xs.length
  | [], _, _, _, h => absurd List.nodup_nil h
  | x :: r, ys, nd, hm, h => by
    by_cases c : r.Nodup
    · have hx : x ∈ r := by
        apply Classical.byContradiction
        intro z
        exact h (List.nodup_cons.mpr ⟨z, c⟩)
      have : ys.length ≤ r.length := nodup_le nd fun k hk => by
        rcases List.mem_cons.mp (hm k hk) with e | e
        · rw [e]; exact hx
        · exact e
      rw [List.length_cons]; omega
    · have h1 : (ys.erase x).length < r.length := unlike_lt (nd.erase x) (fun k hk => by
        have h2 := (List.Nodup.mem_erase_iff nd).mp hk
        rcases List.mem_cons.mp (hm k h2.2) with e | e
        · exact absurd e h2.1
        · exact e) c
      have h2 : ys.length ≤ (ys.erase x).length + 1 := by
        rw [List.length_erase]
        split <;> omega
      rw [List.length_cons]; omega
theorem et_unlike {v : V} {ns : List Str} {i : Nat} (hv : σ[i]? = some (some v)) (h : RowS K W.B v ns) (hl : ns.length ≤ 4000) : EvT ε (tTest (tOp oLt (BY.tLenSetX K (tVar i)) (tCB (rLen K) (tCons (tVar i) tNil)))) σ W (!decide ns.Nodup) := fun W1 g1 Q k => by
  have h1 : RowS K W1.B v ns := h.mono (exExt g1.md.b)
  have sq : ∃ a, v = .ref a ∧ (SqL K W1.H a (ns.map V.str) ∨ SqT K W1.H a (ns.map V.str)) := by
    rcases h1 with ⟨a, vs, e, s, r⟩ | ⟨a, vs, e, s, r⟩
    · exact ⟨a, e, .inl (by rw [← reps_str r]; exact SqL.of (W1.sub.el s))⟩
    · exact ⟨a, e, .inr (by rw [← reps_str r]; exact SqT.of (W1.sub.et s))⟩
  obtain ⟨a, rfl, hs⟩ := sq
  refine ⟨_, hv, a, ns, rfl, hs, hl, fun ys nd hm => ?_⟩
  refine (ev_lenS2 (ε := ε) hv h) W1 g1 _ fun u W2 g2 r => ⟨_, _, rfl, r, _, rfl, ?_⟩
  have e : decide ((ys.length : Int) < (ns.length : Int)) = !decide ns.Nodup := by
    by_cases c : ns.Nodup
    · rw [decide_eq_true c]
      have := nodup_le c fun k hk => (hm k).mpr hk
      exact decide_eq_false (by omega)
    · rw [decide_eq_false c]
      have := unlike_lt nd (fun k hk => (hm k).mp hk) c
      exact decide_eq_true (by omega)
  rw [e]
  exact k W2 g2
end
/-- of what kind a thing is, and whether it is a letter -/
def LetK (K : Fg) (v : V) (b : Bool) (W : Wd) : Prop := (∃ s, v = .str s ∧ s.length ≤ 1000 ∧ b = isLB s) ∨ (∃ a, (∀ W', Grow W W' → TyX K W'.H v (.type a)) ∧ kitB a "str" = some false ∧ (∀ s, v ≠ .str s) ∧ b = false)
theorem LetK.gr {K : Fg} {v : V} {b : Bool} {W W' : Wd} (h : LetK K v b W) (g : Grow W W') : LetK K v b W' := by
  rcases h with h | ⟨a, h1, h2, h3, h4⟩
  · exact .inl h
  · exact .inr ⟨a, fun W2 g2 => h1 W2 (g.trans g2), h2, h3, h4⟩
theorem letk_word {K : Fg} {s : Str} {W : Wd} (h : IsWord s) : LetK K (.str s) true W := .inl ⟨s, rfl, by have := h.hi; omega, (isLB_word h).symm⟩
theorem kit_dstr {d : PyData} (h : ∀ s, d ≠ .str s) : kitB (dcls d) "str" = some false := by
  cases d with
  | str s => exact absurd rfl (h s)
  | none => show kitB "NoneType" "str" = _; decide +kernel
  | bool b => show kitB "bool" "str" = _; decide +kernel
  | int i => show kitB "int" "str" = _; decide +kernel
  | list l => show kitB "list" "str" = _; decide +kernel
  | tuple l => show kitB "tuple" "str" = _; decide +kernel
  | dict l => show kitB "dict" "str" = _; decide +kernel
theorem rep_notS {K : Fg} {H : Hp} {v : V} {d : PyData} (r : rep K H v d) (h : ∀ s, d ≠ .str s) (s : Str) : v ≠ .str s := fun e => by
  subst e
  cases r with
  | pl r _ =>
    cases r with
    | str s => exact h s rfl
theorem letk_d {K : Fg} {v : V} {d : PyData} {W : Wd} (r : rep K W.B v d) (h : TxOk d) : LetK K v (letB d) W := by
  by_cases c : ∃ s, d = .str s
  · obtain ⟨s, rfl⟩ := c
    exact .inl ⟨s, rep_strD r, h, rfl⟩
  · have c : ∀ s, d ≠ .str s := fun s e => c ⟨s, e⟩
    refine .inr ⟨dcls d, fun W' g => ty_dt W' v d (rep_g g r), kit_dstr c, rep_notS r c, ?_⟩
    cases d with
    | str s => exact absurd rfl (c s)
    | _ => rfl
def sp_is_letter (K : Fg) : Sp := fun vs H Q _ => ∃ (W : Wd) (v : V) (b : Bool), W.H = H ∧ vs = [v] ∧ LetK K v b W ∧ ∀ W', Grow W W' → Q (.bl b) W'.H
theorem len_is_letter {K : Fg} {vs : List V} {H : Hp} {Q : VK} {E : XK} (h : sp_is_letter K vs H Q E) : vs.length = ["thing"].length := by
  obtain ⟨W, v, b, _, rfl, _⟩ := h
  rfl
/-- is_letter: the slots 0 thing, 1 sign -/
abbrev n_is_letter : List Str := ["thing", "sign"]
def t_is_letter (K : Fg) : TS := (tSeq (tIfS (tOr (tNot (tB (tCB (rIsi K) (tCons (tVar 0) (tCons (tC (.ty "str")) tNil))))) (tNot (tTest (tChain oLe oLe (tC (.int 1)) (tCB rLenS (tCons (tVar 0) tNil)) (tC (.int 6)))))) (tRet (tC (.bl false))) tNext)
  (tRet (tCB (rAll K) (tCons (tLc (iStr (tVar 0)) (gName 1) tYes (tOp oInS (tVar 1) (tC (.str "abcdefghijklmnopqrstuvwxyz"))) [1]) tNil))))
def sp_Letters___init__ (K : Fg) (C : Addr) : Sp := fun vs H Q E => ∃ (W : Wd) (x dx : Addr) (v : V) (g : GV), W.H = H ∧ vs = [.ref x, v] ∧ W.B x = none ∧ W.H x = some (.ins C dx []) ∧ rep K W.B v g ∧ GOk g ∧
  ((g.are = true ∧ ∀ W' r, Md [x] W W' → W'.B x = none → W'.H x = some (.ins C dx (putF "ranks" (.ref r) [])) → DictAt K W' (.ref r) (⟨ranksOf (g.items.map strOf)⟩ : Dict Str Int) → Q .non W'.H) ∨
   (g.are = false ∧ ∀ W', Grow W W' → E (.ref (cErr K "NoLetters")) none W'.H))
theorem len_Letters___init__ {K : Fg} {C : Addr} {vs : List V} {H : Hp} {Q : VK} {E : XK} (h : sp_Letters___init__ K C vs H Q E) : vs.length = ["self", "names"].length := by
  obtain ⟨W, x, dx, v, names, _, rfl, _⟩ := h
  rfl
/-- Letters.__init__: the slots 0 self, 1 names, 2 name, 3 at -/
abbrev n_Letters___init__ : List Str := ["self", "names", "name", "at"]
def t_Letters___init__ (K : Fg) (c_Letters : Addr) (E : XK) : TS := (tSeq (tIfS (tOr (tNot (tB (tCB (rIsiT K) (tCons (tVar 1) (tCons (tTup (tCons (tC (.ty "list")) (tCons (tC (.ty "tuple")) tNil))) tNil))))) (tNot (tTest (tChain oLe oLe (tC (.int 1)) (tCB (rLen K) (tCons (tVar 1) tNil)) (tC (.int 12)))))) (BX.tRaiseO (cErr K "NoLetters") E) tNext)
  (tSeq (tIfS (tOr (tNot (tB (tCB (rAll K) (tCons (tLc (BY.iSeq K (tVar 1)) (gName 2) tYes (tCall (sp_is_letter K) [] E0 (tCons (tVar 2) tNil)) [2]) tNil)))) (tTest (tOp oLt (BY.tLenSetX K (tVar 1)) (tCB (rLen K) (tCons (tVar 1) tNil))))) (BX.tRaiseO (cErr K "NoLetters") E) tNext)
  (sFld K (tVar 0) (tDc (BY.iEnumSeq K (tCons (tVar 1) tNil)) (gPair K 3 2) tYes (tVar 2) (tVar 3) [3, 2]) "ranks")))
def sp_Letters___len__ (K : Fg) (C : Addr) : Sp := fun vs H Q _ => ∃ (W : Wd) (v : V) (names : List Str), W.H = H ∧ vs = [v] ∧ LetAt K C names v W ∧ ∀ W', Grow W W' → Q (.int (names.length : Nat)) W'.H
theorem len_Letters___len__ {K : Fg} {C : Addr} {vs : List V} {H : Hp} {Q : VK} {E : XK} (h : sp_Letters___len__ K C vs H Q E) : vs.length = ["self"].length := by
  obtain ⟨W, v, names, _, rfl, _⟩ := h
  rfl
/-- Letters.__len__: the slots 0 self -/
abbrev n_Letters___len__ : List Str := ["self"]
def t_Letters___len__ (K : Fg) (c_Letters : Addr) : TS := (tRet (tCB rLenD (tCons (tFld K (tVar 0) "ranks") tNil)))
def sp_Letters_ranked (K : Fg) (C : Addr) : Sp := fun vs H Q _ => ∃ (W : Wd) (v : V) (names : List Str), W.H = H ∧ vs = [v] ∧ LetAt K C names v W ∧ ∀ p W', Grow W W' → W.H p = none → LMut K W' p names → Q (.ref p) W'.H
theorem len_Letters_ranked {K : Fg} {C : Addr} {vs : List V} {H : Hp} {Q : VK} {E : XK} (h : sp_Letters_ranked K C vs H Q E) : vs.length = ["self"].length := by
  obtain ⟨W, v, names, _, rfl, _⟩ := h
  rfl
/-- Letters.ranked: the slots 0 self -/
abbrev n_Letters_ranked : List Str := ["self"]
def t_Letters_ranked (K : Fg) (c_Letters : Addr) : TS := (tRet (tCB rListD (tCons (tFld K (tVar 0) "ranks") tNil)))
def sp_Letters_names (K : Fg) (C : Addr) : Sp := fun vs H Q _ => ∃ (W : Wd) (v : V) (names : List Str), W.H = H ∧ vs = [v] ∧ LetAt K C names v W ∧ ∀ p W', Grow W W' → W.H p = none → LMut K W' p (sortS names) → Q (.ref p) W'.H
theorem len_Letters_names {K : Fg} {C : Addr} {vs : List V} {H : Hp} {Q : VK} {E : XK} (h : sp_Letters_names K C vs H Q E) : vs.length = ["self"].length := by
  obtain ⟨W, v, names, _, rfl, _⟩ := h
  rfl
/-- Letters.names: the slots 0 self -/
abbrev n_Letters_names : List Str := ["self"]
def t_Letters_names (K : Fg) (c_Letters : Addr) : TS := (tRet (tCB rSortedDS (tCons (tFld K (tVar 0) "ranks") tNil)))
def sp_Letters___eq__ (K : Fg) (C : Addr) : Sp := fun vs H Q _ => ∃ (W : Wd) (v u : V) (n1 : List Str) (b : Bool), W.H = H ∧ vs = [v, u] ∧ LetAt K C n1 v W ∧ ((∃ n2, LetAt K C n2 u W ∧ b = decide (n1 = n2)) ∨ (KdOf K C u W ∧ b = false)) ∧ ∀ W', Grow W W' → Q (.bl b) W'.H
theorem len_Letters___eq__ {K : Fg} {C : Addr} {vs : List V} {H : Hp} {Q : VK} {E : XK} (h : sp_Letters___eq__ K C vs H Q E) : vs.length = ["self", "other"].length := by
  obtain ⟨W, v, u, n1, n2, _, rfl, _⟩ := h
  rfl
/-- Letters.__eq__: the slots 0 self, 1 other -/
abbrev n_Letters___eq__ : List Str := ["self", "other"]
def t_Letters___eq__ (K : Fg) (c_Letters : Addr) : TS := (tRet (tAndV (tCB (rIsi K) (tCons (tVar 1) (tCons (tC (.ref c_Letters)) tNil))) (tOp (rEqT K false) (tMeth c_Letters "ranked" (sp_Letters_ranked K c_Letters) [] E0 (tVar 0) tNil) (tMeth c_Letters "ranked" (sp_Letters_ranked K c_Letters) [] E0 (tVar 1) tNil))))
/-- whether it is one of these -/
def hasB (names : List Str) : V → Bool
  | .str n => decide (n ∈ names)
  | _ => false
def sp_Letters_has (K : Fg) (C : Addr) : Sp := fun vs H Q _ => ∃ (W : Wd) (v u : V) (names : List Str) (b : Bool), W.H = H ∧ vs = [v, u] ∧ LetAt K C names v W ∧ LetK K u b W ∧ ∀ W', Grow W W' → Q (.bl (hasB names u)) W'.H
theorem len_Letters_has {K : Fg} {C : Addr} {vs : List V} {H : Hp} {Q : VK} {E : XK} (h : sp_Letters_has K C vs H Q E) : vs.length = ["self", "thing"].length := by
  obtain ⟨W, v, u, names, b, _, rfl, _⟩ := h
  rfl
/-- Letters.has: the slots 0 self, 1 thing -/
abbrev n_Letters_has : List Str := ["self", "thing"]
def t_Letters_has (K : Fg) (c_Letters : Addr) : TS := (tRet (tAndV (tCall (sp_is_letter K) [] E0 (tCons (tVar 1) tNil)) (tDIn (tVar 1) (tFld K (tVar 0) "ranks"))))
def sp_NoLetter___init__ (K : Fg) : Sp := fun vs H Q _ => ∃ (a : Addr) (u : V), vs = [.ref a, u] ∧ H a = some (exo a (cErr K "NoLetter") none) ∧ ∀ dx, H dx = none → dx ≠ a → Q .non (upd (upd H dx (exd dx [("name", u)])) a (exo a (cErr K "NoLetter") (some dx)))
theorem len_NoLetter___init__ {K : Fg} {vs : List V} {H : Hp} {Q : VK} {E : XK} (h : sp_NoLetter___init__ K vs H Q E) : vs.length = ["self", "name"].length := by
  obtain ⟨a, u, rfl, _⟩ := h
  rfl
/-- NoLetter.__init__: the slots 0 self, 1 name -/
abbrev n_NoLetter___init__ : List Str := ["self", "name"]
def t_NoLetter___init__ (K : Fg) : TS := (tOst K "name" (tVar 0) (tVar 1))
def sp_Letters_rank (K : Fg) (C : Addr) : Sp := fun vs H Q E => ∃ (W : Wd) (v u : V) (names : List Str) (b : Bool), W.H = H ∧ vs = [v, u] ∧ LetAt K C names v W ∧ LetK K u b W ∧
  ((∃ n i, u = .str n ∧ klook (ranksOf names) n = some i ∧ ∀ W', Grow W W' → Q (.int i) W'.H) ∨ (hasB names u = false ∧ ∀ W' d, Grow W W' → W'.H d = some (.xd [("name", u)]) → E (.ref (cErr K "NoLetter")) (some d) W'.H))
theorem len_Letters_rank {K : Fg} {C : Addr} {vs : List V} {H : Hp} {Q : VK} {E : XK} (h : sp_Letters_rank K C vs H Q E) : vs.length = ["self", "name"].length := by
  obtain ⟨W, v, u, names, b, _, rfl, _⟩ := h
  rfl
/-- Letters.rank: the slots 0 self, 1 name -/
abbrev n_Letters_rank : List Str := ["self", "name"]
def t_Letters_rank (K : Fg) (c_Letters : Addr) (E : XK) : TS := (tSeq (tIfS (tNot (tB (tMeth c_Letters "has" (sp_Letters_has K c_Letters) [] E0 (tVar 0) (tCons (tVar 1) tNil)))) (BE.tRaiseI (cErr K "NoLetter") (sp_NoLetter___init__ K) (tCons (tVar 1) tNil) E) tNext)
  (tRet (tDGet (tFld K (tVar 0) "ranks") (tVar 1))))
section
variable {K : Fg} {W : Wd} {σ : SS} {ε : Ef} {te ta : TE} {C : Addr} {names : List Str}
/-- .ranks of letters -/
theorem ev_ranks (c : LettersC K C) (h : EvP ε te σ W (LetAt K C names)) : EvP ε (tFld K te "ranks") σ W (fun v W => ∃ r, v = .ref r ∧ DictAt K W (.ref r) (⟨ranksOf names⟩ : Dict Str Int)) := fun W1 g1 Q k => h W1 g1 _ fun v W2 g2 ⟨l, dl, r, e, h1, h2, h3⟩ =>
  ⟨l, C, dl, _, .ref r, e, W2.sub.ins h1, c.i.cl, c.nr, by rw [lookup_putF, if_pos rfl], k _ W2 g2 ⟨r, rfl, h2⟩⟩
theorem was_free {W W' : Wd} {p : Addr} (g : Grow W W') (h : W'.H p = none) : W.H p = none := by
  cases q : W.H p with
  | none => rfl
  | some o => rw [g.h p o q] at h; cases h
/-- what stands behind an instance made new -/
theorem made_let {W2 W3 : Wd} {x dx r : Addr} {fs : List (Str × V)} (hx : W2.H x = none) (m2 : Md [x] W2 W3) (b3 : W3.B x = none) (h3 : W3.H x = some (.ins C dx (putF "ranks" (.ref r) fs))) (d3 : DictAt K W3 (.ref r) (⟨ranksOf names⟩ : Dict Str Int)) (al : Alpha names) (hf : fs = []) :
    Grow W2 (W3.fix x _ h3) ∧ LetAt K C names (.ref x) (W3.fix x _ h3) := by
  subst hf
  have g3 : Grow W2 (W3.fix x _ h3) := md_fix (S := []) (W := W2) (W' := W3) ⟨m2.b, m2.l, fun a o _ e => m2.o a o (fun z => by rw [List.mem_singleton.mp z] at e; rw [hx] at e; cases e) e, m2.m, m2.d, m2.n⟩ h3 b3 hx
  have on : On W3 (W3.fix x _ h3) := ⟨ex_fix h3 b3, fun _ _ _ z => z⟩
  exact ⟨g3, x, dx, r, rfl, upd_same, d3.on on, al⟩
/-- the world in which an instance is being made -/
theorem new_ins {W2 : Wd} {x dx : Addr} (hx : W2.H x = none) (hdx : W2.H dx = none) (ne : dx ≠ x) : ∃ Wb : Wd, Wb.H = upd (upd W2.H dx (.own x)) x (.ins C dx []) ∧ Grow W2 Wb ∧ Wb.B x = none ∧ Wb.H x = some (.ins C dx []) := by
  let Wa := W2.put dx (.own x) (W2.free hdx)
  have hx' : Wa.H x = none := (upd_ne ne.symm).trans hx
  exact ⟨Wa.put x (.ins C dx []) (Wa.free hx'), rfl, (W2.grow_put hdx).trans (Wa.grow_put hx'), Wa.free hx', upd_same⟩
/-- letters made -/
theorem ep_lettersG {g : GV} (h : EvR ε K te σ W g) (ok : GOk g) (ha : g.are = true) : EvP ε (tMake C (sp_Letters___init__ K C) [] E0 (tCons te tNil)) σ W (LetAt K C (g.items.map strOf)) := fun W1 g1 Q k => h W1 g1 _ fun v W2 g2 rv x dx hx hdx ne => by
  obtain ⟨Wb, eb, gab, bx, hbx⟩ := new_ins (C := C) hx hdx ne
  refine ⟨Wb, x, dx, v, g, eb, rfl, bx, hbx, rep_g gab rv, ok, .inl ⟨ha, fun W3 r m3 b3 h3 d3 => ⟨rfl, ?_⟩⟩⟩
  obtain ⟨g3, l3⟩ := made_let (C := C) hx ((Grow.s gab).trans m3) b3 h3 d3 (GV.names ha).1 rfl
  exact k _ (W3.fix x _ h3) (g2.and g3) l3
/-- a method of letters -/
theorem ep_lmeth {R : V → Wd → Prop} {m : Str} {sp : Sp} (h : EvP ε te σ W (LetAt K C names)) (hm : ¬ m = "ranks") (hs : ∀ v W1, Stp ε W W1 → LetAt K C names v W1 → ∀ Q : VK, (∀ u W2, Stp ε W1 W2 → R u W2 → Q u W2.H) → sp [v] W1.H Q E0) : EvP ε (tMeth C m sp [] E0 te tNil) σ W R := fun W1 g1 Q k => h W1 g1 _ fun v W2 g2 hl => by
  obtain ⟨l, dl, r, e, h1, h2, h3⟩ := id hl
  refine ⟨l, dl, _, e, W2.sub.ins h1, by rw [lookup_putF, if_neg hm]; all_goals rfl, ?_⟩
  exact hs v W2 (g1.trans g2) hl _ fun u W3 g3 r => k u W3 (g2.trans g3) r
theorem ep_lmeth1 {R : V → Wd → Prop} {P : V → Wd → Prop} {m : Str} {sp : Sp} (h : EvP ε te σ W (LetAt K C names)) (hm : ¬ m = "ranks") (ha : EvP ε ta σ W P) (hs : ∀ v u W1, Stp ε W W1 → LetAt K C names v W1 → P u W1 → ∀ Q : VK, (∀ u W2, Stp ε W1 W2 → R u W2 → Q u W2.H) → sp [v, u] W1.H Q E0) : EvP ε (tMeth C m sp [] E0 te (tCons ta tNil)) σ W R := fun W1 g1 Q k => h W1 g1 _ fun v W2 g2 hl => by
  obtain ⟨l, dl, r, e, h1, h2, h3⟩ := id hl
  refine ⟨l, dl, _, e, W2.sub.ins h1, by rw [lookup_putF, if_neg hm]; all_goals rfl, ?_⟩
  exact ha W2 (g1.trans g2) _ fun u W3 g3 pu => hs v u W3 ((g1.trans g2).trans g3) (hl.s g3) pu _ fun u W4 g4 r4 => k u W4 ((g2.trans g3).trans g4) r4
/-- isinstance of letters -/
theorem ev_isLet (c : LettersC K C) (h : EvP ε te σ W (LetAt K C names)) : EvR ε K (tCB (rIsi K) (tCons te (tCons (tC (.ref C)) tNil))) σ W true := fun W1 g1 Q k => h W1 g1 _ fun v W2 g2 hl => by
  obtain ⟨l, dl, r, e, h1, h2, h3⟩ := id hl
  subst e
  show rIsi K [.ref l, .ref C] W2.H Q
  exact rc_isi_own c.i (W2.sub.ins h1) (k _ W2 g2 rfl)
/-- what is new and may change may as well stay -/
theorem rep_of_new {α : Type} [Py α] {W W' : Wd} {p : Addr} {xs : List α} (g : Grow W W') (f : W.H p = none) (m : LMut K W' p xs) : ∃ W'' : Wd, W''.H = W'.H ∧ Grow W W'' ∧ rep K W''.B (.ref p) xs := by
  obtain ⟨o, h, r, _, m2⟩ := m.fix
  exact ⟨W'.fix p o h, rfl, m2 W [] g f, r⟩
theorem keys_vals {B : Hp} {names : List Str} {ks : List (Key × V)} {kv : List (Str × Int)} (r : KReps K B ks kv) (e : kv.map (·.1) = names) : Reps K B (ks.map fun q => kV q.1) names := by
  subst e
  induction r with
  | nil => exact .nil
  | cons a b ih => exact .cons (congrArg kV a.1) ih
theorem ev_ranked (h : EvP ε te σ W (LetAt K C names)) : EvR ε K (tMeth C "ranked" (sp_Letters_ranked K C) [] E0 te tNil) σ W names :=
  ep_lmeth (R := fun v W => rep K W.B v names) h (by decide +kernel) fun v W1 g hl Q k => ⟨W1, v, names, rfl, rfl, hl, fun p W' g' f m => by
    obtain ⟨W2, e, g2, r⟩ := rep_of_new g' f m
    rw [← e]
    exact k _ W2 (.and (.start g.i) g2) r⟩
theorem ev_lnames (h : EvP ε te σ W (LetAt K C names)) : EvR ε K (tMeth C "names" (sp_Letters_names K C) [] E0 te tNil) σ W (sortS names) :=
  ep_lmeth (R := fun v W => rep K W.B v (sortS names)) h (by decide +kernel) fun v W1 g hl Q k => ⟨W1, v, names, rfl, rfl, hl, fun p W' g' f m => by
    obtain ⟨W2, e, g2, r⟩ := rep_of_new g' f m
    rw [← e]
    exact k _ W2 (.and (.start g.i) g2) r⟩
/-- is_letter of any thing -/
theorem ev_isLetP {b : Bool} (h : EvP pur te σ W (fun v W => LetK K v b W)) : EvR pur K (tCall (sp_is_letter K) [] E0 (tCons te tNil)) σ W b :=
  (ev_callP1 (R := fun v W => rep K W.B v b) h fun v W1 g e Q k => ⟨W1, v, b, rfl, rfl, e, fun W' g' => k _ W' (.of g') rfl⟩ : EvP _ _ _ _ _)
theorem ev_isLetK {i : Nat} {v : V} {b : Bool} (h : σ[i]? = some (some v)) (hk : LetK K v b W) : EvR pur K (tCall (sp_is_letter K) [] E0 (tCons (tVar i) tNil)) σ W b := ev_isLetP (ep_var h hk fun W' g => hk.gr g.pure)
end
section
variable {K : Fg} {vs : List V} {H : Hp} {Q : VK} {E : XK} {C : Addr}
theorem rd_is_letter (h : sp_is_letter K vs H Q E) : t_is_letter K { nx := fun _ H' => Q .non H', rt := Q } (start n_is_letter vs) H := by
  obtain ⟨W, v, b, rfl, rfl, hk, k⟩ := h
  have e : ∀ {i : Str} {W : Wd}, rep K W.B (V.str i) i := rfl
  rcases hk with ⟨s, rfl, hl, rfl⟩ | ⟨a, ht, hk, _, rfl⟩
  rotate_left
  · have isE : EvR pur K (tCB (rIsi K) (tCons (tVar 0) (tCons (tC (.ty "str")) tNil))) [some v, none] W false := fun W1 g1 Q k => ⟨_, rfl, v, .ty "str", .type a, .type "str", false, rfl, .ty "str", ht W1 g1.pure, kit_ty hk, k _ W1 g1.rf rfl⟩
    exact q_when (ε := pur) (b := true) ((et_or (a := true) (b := false) ((et_not (et_B isE)).is rfl) fun z => by cases z).is rfl) trivial (fun _ W1 g1 => k W1 g1.pure) (fun z => by cases z)
  refine q_when (ε := pur) (b := !(decide (1 ≤ s.length) && decide (s.length ≤ 6))) ((et_or (a := false) ((et_not (et_B (ev_cb2 (ev_var rfl e) ev_raw (rc_isi (b := true) ty_str (by decide +kernel))))).is rfl) fun _ => et_not (et_test (ev_chain ev_int (ev_cb1 (ev_var rfl e) (rc_lenS (by omega))) ev_int ro_B0 ro_B0))).is (by
    rw [Bool.false_or]
    congr 2 <;> exact decide_eq_decide.mpr (by omega))) trivial (fun z W1 g1 => ?_) fun z W1 g1 => ?_
  · have : isLB s = false := by
      unfold isLB
      rw [show (decide (1 ≤ s.length) && decide (s.length ≤ 6)) = false from Bool.not_eq_true' _ ▸ z]
      rfl
    rw [this] at k
    exact k W1 g1.pure
  have z : (decide (1 ≤ s.length) && decide (s.length ≤ 6)) = true := Bool.not_eq_false' _ ▸ z
  refine s_ret (ε := pur) (K := K) (x := isLB s) ((ev_cb1 (ev_lcN (f := signB) (ei_str (ev_var rfl e)).i (fun x v W' hx g r => (ev_op (ev_var rfl r) ev_str (ro_val fun v u W2 rv ru Q k => ⟨x, _, rv, ru, k _ rfl⟩)))  (by unfold signs; rw [List.length_map, Array.length_toList]; have : s.length = s.cps.size := rfl; omega)) rc_all).is ?_) trivial fun v W' g r => ?_
  · unfold isLB
    rw [z, Bool.true_and, List.all_map]
    rfl
  · rw [show v = _ from r]
    exact k W' (g1.pure.trans g.pure)
/-- o.f = v, where P is known of v -/
theorem s_fldP {D : Ends} {σ : SS} {W : Wd} {tv : TE} {P : V → Wd → Prop} {x dx C : Addr} {f : Str} {fs : List (Str × V)} {i : Nat} (c : Cls K C) (n : NoAttr K C f) (hd : σ[i]? = some (some (.ref x))) (hb : W.B x = none) (hh : W.H x = some (.ins C dx fs)) (hl : fs.length < 1000) (hv : EvP pur tv σ W P)
    (q : ∀ v W1 W', Grow W W1 → P v W1 → Md [x] W1 W' → On W1 W' → W1.B x = none → W1.H x = some (.ins C dx fs) → W'.B x = none → W'.H x = some (.ins C dx (putF f v fs)) → D.nx σ W'.H) : sFld K (tVar i) tv f D σ W.H := hv W (.start trivial) _ fun v W1 g1 pv => by
  have m := g1.pure.mut (by simp) hh hb
  exact ⟨_, hd, x, C, dx, fs, rfl, m.1, c, n, hl, q v W1 (W1.put x _ m.2) g1.pure pv (md_put m.2) (md_put m.2).on m.2 m.1 m.2 upd_same⟩
theorem EvD.p {κ α : Type} [PyKey κ] [Py α] {ε : Ef} {σ : SS} {W : Wd} {te : TE} {d : Dict κ α} (h : EvD ε K te σ W d) : EvP ε te σ W (fun v W => DictAt K W v d) := h
theorem rd_Letters___init__ (c : LettersC K C) (h : sp_Letters___init__ K C vs H Q E) : t_Letters___init__ K C E { nx := fun _ H' => Q .non H', rt := Q } (start n_Letters___init__ vs) H := by
  obtain ⟨W, x, dx, v, g, rfl, rfl, hb, hh, rv, ok, hk⟩ := h
  have t1 : EvT pur (tOr (tNot (tB (tCB (rIsiT K) (tCons (tVar 1) (tCons (tTup (tCons (tC (.ty "list")) (tCons (tC (.ty "tuple")) tNil))) tNil))))) (tNot (tTest (tChain oLe oLe (tC (.int 1)) (tCB (rLen K) (tCons (tVar 1) tNil)) (tC (.int 12)))))) [some (.ref x), some v, none, none] W (!(g.row && (decide (1 ≤ g.items.length) && decide (g.items.length ≤ 12)))) := by
    refine (et_or (a := !g.row) (b := !(decide (1 ≤ g.items.length) && decide (g.items.length ≤ 12))) (et_not (et_B (ev_isG (v := v) (ev_var (i := 1) rfl rv)))) fun z => (et_not (et_test (ev_chain ev_int (ev_lenG (ev_var (i := 1) rfl rv) (nb_f z)) ev_int ro_B0 ro_B0))).is ?_).is (Bool.not_and _ _).symm
    congr 2 <;> exact decide_eq_decide.mpr (by omega)
  have no : (g.row && (decide (1 ≤ g.items.length) && decide (g.items.length ≤ 12))) = false → g.are = false := fun z => by
    unfold GV.are
    rw [← Bool.and_assoc, z, Bool.false_and]
  refine q_when (ε := pur) t1 trivial (fun z W1 g1 => ?_) fun z W1 g1 => ?_
  · have ha : g.are = false := no (nb_t z)
    rcases hk with ⟨h, _⟩ | ⟨_, k⟩
    · rw [ha] at h; cases h
    · exact k W1 g1.pure
  have z : (g.row && (decide (1 ≤ g.items.length) && decide (g.items.length ≤ 12))) = true := nb_f z
  have hr : g.row = true := (Bool.and_eq_true _ _ ▸ z : _ ∧ _).1
  have rv1 := rep_s g1 rv
  have t2 : EvT pur (tOr (tNot (tB (tCB (rAll K) (tCons (tLc (BY.iSeq K (tVar 1)) (gName 2) tYes (tCall (sp_is_letter K) [] E0 (tCons (tVar 2) tNil)) [2]) tNil)))) (tTest (tOp oLt (BY.tLenSetX K (tVar 1)) (tCB (rLen K) (tCons (tVar 1) tNil))))) [some (.ref x), some v, none, none] W1 (!(g.items.all letB && decide ((g.items.map strOf).Nodup))) := by
    refine (et_or (a := !g.items.all letB) (b := !decide ((g.items.map strOf).Nodup)) (et_not (et_B ((ev_cb1 (ev_lcN (f := letB) (ei_gv (ev_var (i := 1) rfl rv1) hr).i (fun d u W' hd g' r => ev_isLetK rfl (letk_d r (ok.tx d hd))) (by have := ok.ln; omega)) rc_all).is (by rw [List.all_map]; rfl)))) fun z => ?_).is (Bool.not_and _ _).symm
    have z : g.items.all letB = true := nb_f z
    exact et_unlike (i := 1) rfl (gv_row rv1 hr (lets_str z)) (by rw [List.length_map]; have := ok.ln; omega)
  refine q_when (ε := pur) t2 trivial (fun z2 W2 g2 => ?_) fun z2 W2 g2 => ?_
  · have ha : g.are = false := by
      unfold GV.are
      rw [show (g.items.all letB && decide ((g.items.map strOf).Nodup)) = false from nb_t z2, Bool.and_false, Bool.and_false]
    rcases hk with ⟨h, _⟩ | ⟨_, k⟩
    · rw [ha] at h; cases h
    · exact k W2 (g1.trans g2).pure
  have ha : g.are = true := by
    unfold GV.are
    rw [← Bool.and_assoc, z, Bool.true_and]
    exact nb_f z2
  obtain ⟨al, ei, _⟩ := GV.names ha
  rcases hk with ⟨_, k⟩ | ⟨h, _⟩
  rotate_left
  · rw [ha] at h; cases h
  have gg := (g1.trans g2).pure
  have m := gg.mut (by simp) hh hb
  have rs : RowS K W2.B v (g.items.map strOf) := gv_row (rep_s g2 rv1) hr ei
  have al2 := al.hi
  generalize g.items.map strOf = names at al rs k al2
  have dc : EvD pur K (tDc (BY.iEnumSeq K (tCons (tVar 1) tNil)) (gPair K 3 2) tYes (tVar 2) (tVar 3) [3, 2]) [some (.ref x), some v, none, none] W2 (⟨ranksOf names⟩ : Dict Str Int) := by
    refine ((em_dcP (p := fun _ => true) (f := fun e : Int × Str => (e.2, e.1)) (ei_enumS (i := 1) rfl rs).i (fun x v u W' _ _ _ _ => et_yes) (fun x v u W' _ _ g r r' => ek_str (ev_var rfl r')) (fun x v u W' _ _ g r r' => ev_var rfl r) (by rw [List.length_zip, rng_len]; omega)).is ?_).toD
    rw [filter_yes]
    have : ((rng 0 names.length).zip names).map (fun e : Int × Str => (e.2, e.1)) = ranksOf names := zip_sw _ _
    rw [this]
    exact kfill_id (by rw [ranks_keys]; exact al.nd)
  refine s_fldP c.i.cl c.nr rfl m.2 m.1 (by show 0 < 1000; decide) dc.p fun v3 W3 W4 g3 d3 m4 o4 b3 h3 b4 h4 => ?_
  obtain ⟨r, ks, e, z1, z2, z3⟩ := id d3
  subst e
  exact k W4 r ((Grow.s (gg.trans g3)).trans m4) b4 h4 (d3.on o4)
theorem rd_Letters___len__ (c : LettersC K C) (h : sp_Letters___len__ K C vs H Q E) : t_Letters___len__ K C { nx := fun _ H' => Q .non H', rt := Q } (start n_Letters___len__ vs) H := by
  obtain ⟨W, v, names, rfl, rfl, hl, k⟩ := h
  refine (ev_ranks (ε := pur) c (ep_var (i := 0) rfl hl fun W' g => hl.s g)) W (.start trivial) _ fun u W1 g1 ⟨r, e, dd⟩ => ?_
  subst e
  obtain ⟨a, ks, e, hB, hH, rr⟩ := dd
  cases e
  refine ⟨r, ks, rfl, hH, ?_⟩
  rw [KReps.len rr, show ((⟨ranksOf names⟩ : Dict Str Int).kv).length = names.length from ranks_len names]
  exact k W1 g1.pure
theorem rd_Letters_ranked (c : LettersC K C) (h : sp_Letters_ranked K C vs H Q E) : t_Letters_ranked K C { nx := fun _ H' => Q .non H', rt := Q } (start n_Letters_ranked vs) H := by
  obtain ⟨W, v, names, rfl, rfl, hl, k⟩ := h
  refine (ev_ranks (ε := pur) c (ep_var (i := 0) rfl hl fun W' g => hl.s g)) W (.start trivial) _ fun u W1 g1 ⟨r, e, dd⟩ => ?_
  subst e
  obtain ⟨a, ks, e, hB, hH, rr⟩ := dd
  cases e
  exact ⟨r, ks, rfl, hH, fun p hp => k p (W1.put p _ (W1.free hp)) (g1.pure.trans (W1.grow_put hp)) (was_free g1.pure hp) ⟨W1.free hp, _, upd_same, keys_vals rr (ranks_keys names)⟩⟩
theorem rd_Letters_names (c : LettersC K C) (h : sp_Letters_names K C vs H Q E) : t_Letters_names K C { nx := fun _ H' => Q .non H', rt := Q } (start n_Letters_names vs) H := by
  obtain ⟨W, v, names, rfl, rfl, hl, k⟩ := h
  have al := hl.al
  refine (ev_ranks (ε := pur) c (ep_var (i := 0) rfl hl fun W' g => hl.s g)) W (.start trivial) _ fun u W1 g1 ⟨r, e, dd⟩ => ?_
  subst e
  obtain ⟨a, ks, e, hB, hH, rr⟩ := dd
  cases e
  refine ⟨r, ks, names, rfl, .inl hH, by rw [kreps_keysS rr]; show (ranksOf names |>.map (·.1)).map Sum.inr = _; rw [ranks_keys], by have := al.hi; omega, fun ys p h1 h2 hp => ?_⟩
  rw [sortS_eq h1 (sorted_pw h2)]
  exact k p (W1.put p _ (W1.free hp)) (g1.pure.trans (W1.grow_put hp)) (was_free g1.pure hp) ⟨W1.free hp, _, upd_same, str_reps _⟩
theorem rd_Letters___eq__ (c : LettersC K C) (h : sp_Letters___eq__ K C vs H Q E) : t_Letters___eq__ K C { nx := fun _ H' => Q .non H', rt := Q } (start n_Letters___eq__ vs) H := by
  obtain ⟨W, v, u, n1, b, rfl, rfl, h1, hk, k⟩ := h
  rcases hk with ⟨n2, h2, rfl⟩ | ⟨kd, rfl⟩
  · refine s_ret (ε := pur) (K := K) (x := decide (n1 = n2)) ((ev_andV (a := true) (ev_isLet c (ep_var (i := 1) rfl h2 fun W' g => h2.s g)) fun _ => ev_op (ev_ranked (ep_var (i := 0) rfl h1 fun W' g => h1.s g)) (ev_ranked (ep_var (i := 1) rfl h2 fun W' g => h2.s g)) (ro_eqT (by decide))).is rfl) trivial fun z W' g r => ?_
    rw [show z = _ from r]
    exact k W' g.pure
  · refine s_ret (ε := pur) (K := K) (x := false) ((ev_andV (a := false) (b := false) (ev_kdOf (ev_rvar (i := 1) rfl) kd) fun z => by cases z).is rfl) trivial fun z W' g r => ?_
    rw [show z = _ from r]
    exact k W' g.pure
theorem rd_Letters_has (c : LettersC K C) (h : sp_Letters_has K C vs H Q E) : t_Letters_has K C { nx := fun _ H' => Q .non H', rt := Q } (start n_Letters_has vs) H := by
  obtain ⟨W, v, u, names, b, rfl, rfl, hl, hk, k⟩ := h
  have hk0 := hk
  rcases hk with ⟨n, rfl, hln, rfl⟩ | ⟨a, ht, _, hns, rfl⟩
  · have e : ∀ {W : Wd}, rep K W.B (V.str n) n := rfl
    have din : EvR pur K (tDIn (tVar 1) (tFld K (tVar 0) "ranks")) [some v, some (.str n)] W (decide (n ∈ names)) := fun W1 g1 Q k => by
      refine (ev_var (i := 1) rfl e : EvR pur K _ _ W n) W1 g1 _ fun u W2 g2 eu => ?_
      refine (ev_ranks (ε := pur) c (ep_var (i := 0) rfl hl fun W' g => hl.s g)) W2 (g1.trans g2) _ fun v W3 g3 ⟨r, e3, d⟩ => ?_
      obtain ⟨a, ks, e4, _, h4, r4⟩ := id d
      cases e4
      rcases klk r4 n with ⟨h1, h2⟩ | ⟨y, w, h1, h2, h3⟩
      · have hn : n ∉ names := fun z => by
          obtain ⟨i, hi⟩ := rank_of z
          have h1 : klook (ranksOf names) n = none := h1
          rw [hi] at h1; cases h1
        refine ⟨r, none, e3, .inl ⟨ks, PyKey.key n, .inl h4, eu, h2.symm⟩, k _ W3 (g2.trans g3) ?_⟩
        show V.bl _ = V.bl _
        rw [decide_eq_false hn]; rfl
      · have hn : n ∈ names := by
          have : n ∈ (ranksOf names).map (·.1) := List.mem_map.mpr ⟨(n, y), klook_mem (kv := ranksOf names) h1, rfl⟩
          rwa [ranks_keys] at this
        refine ⟨r, some w, e3, .inl ⟨ks, PyKey.key n, .inl h4, eu, h2.symm⟩, k _ W3 (g2.trans g3) ?_⟩
        show V.bl _ = V.bl _
        rw [decide_eq_true hn]; rfl
    refine s_ret (ε := pur) (K := K) (x := decide (n ∈ names)) ((ev_andV (a := isLB n) (ev_isLetK (i := 1) rfl hk0) fun _ => din).is (by
      by_cases z : n ∈ names
      · rw [isLB_word (hl.al.ok n z), Bool.true_and]
      · rw [decide_eq_false z, Bool.and_false])) trivial fun z W' g r => ?_
    rw [show z = _ from r]
    exact k W' g.pure
  · refine s_ret (ε := pur) (K := K) (x := false) ((ev_andV (a := false) (b := false) (ev_isLetK (i := 1) rfl hk0) fun z => by cases z).is rfl) trivial fun z W' g r => ?_
    rw [show z = _ from r]
    have := k W' g.pure
    have e : hasB names u = false := by
      cases u with
      | str s => exact absurd rfl (hns s)
      | _ => rfl
    rwa [e] at this
theorem rd_NoLetter___init__ (h1 : OexC K (cErr K "NoLetter")) (h2 : PySem.W.findIn K (.ref (cErr K "NoLetter")) "name" = some none) (h : sp_NoLetter___init__ K vs H Q E) : t_NoLetter___init__ K { nx := fun _ H' => Q .non H', rt := Q } (start n_NoLetter___init__ vs) H := by
  obtain ⟨a, u, rfl, ha, k⟩ := h
  exact ⟨_, rfl, _, rfl, a, _, rfl, h1, h2, .inl ⟨ha, fun dx n ne => k dx n ne⟩⟩
theorem s_raiseNL {W : Wd} {σ : SS} {i : Nat} {u : V} {D : Ends} (hi : σ[i]? = some (some u)) (k : ∀ W' d, Grow W W' → W'.H d = some (.xd [("name", u)]) → E (.ref (cErr K "NoLetter")) (some d) W'.H) : BE.tRaiseI (cErr K "NoLetter") (sp_NoLetter___init__ K) (tCons (tVar i) tNil) E D σ W.H := by
  refine ⟨_, hi, (by show 1 ≤ 1000; decide), fun a ha => ⟨a, u, rfl, upd_same, fun dx n ne => ⟨rfl, dx, [("name", u)], upd_same, (upd_ne ne).trans upd_same, (upd_ne ne).symm.trans n, ?_⟩⟩⟩
  have hdx : W.H dx = none := (upd_ne ne).symm.trans n
  let W' := W.put dx (.xd [("name", u)]) (W.free hdx)
  have g : Grow W W' := W.grow_put hdx
  have eq : upd (del (upd (upd (upd W.H a (exo a (cErr K "NoLetter") none)) dx (exd dx [("name", u)])) a (exo a (cErr K "NoLetter") (some dx))) a) dx (.xd [("name", u)]) = W'.H := by
    funext b
    show upd _ dx _ b = upd W.H dx _ b
    unfold upd del
    by_cases c1 : b = dx
    · simp [c1]
    · by_cases c2 : b = a
      · subst c2
        simp [c1, ha]
      · simp [c1, c2]
  rw [eq]
  exact k W' dx g upd_same
theorem rd_Letters_rank (c : LettersC K C) (h : sp_Letters_rank K C vs H Q E) : t_Letters_rank K C E { nx := fun _ H' => Q .non H', rt := Q } (start n_Letters_rank vs) H := by
  obtain ⟨W, v, u, names, b, rfl, rfl, hl, hk, h⟩ := h
  have has : EvP pur (tMeth C "has" (sp_Letters_has K C) [] E0 (tVar 0) (tCons (tVar 1) tNil)) [some v, some u] W (fun v W => rep K W.B v (hasB names u)) :=
    ep_lmeth1 (σ := [some v, some u]) (R := fun v W => rep K W.B v (hasB names u)) (P := fun v' _ => v' = u) (ep_var (i := 0) rfl hl fun W' g => hl.s g) (by decide +kernel) (fun W1 g1 Q k => ⟨_, rfl, k u W1 g1.rf rfl⟩) fun v' u' W1 g hl e Q k => ⟨W1, v', u', names, b, rfl, rfl, hl, by rw [e]; exact hk.gr g.pure, fun W' g' => k _ W' (.of g') (by rw [e]; rfl)⟩
  rcases h with ⟨n, i, rfl, hi, k⟩ | ⟨hno, k⟩
  · have e : ∀ {W : Wd}, rep K W.B (V.str n) n := rfl
    have hn : n ∈ names := by
      have : n ∈ (ranksOf names).map (·.1) := List.mem_map.mpr ⟨(n, i), klook_mem hi, rfl⟩
      rwa [ranks_keys] at this
    refine q_when (ε := pur) (b := false) ((et_not (et_B (K := K) (b := true) (by rw [show hasB names (.str n) = true from decide_eq_true hn] at has; exact has))).is rfl) trivial (fun z => by cases z) fun _ W1 g1 => ?_
    have hl1 := hl.s g1
    have dg : EvR pur K (tDGet (tFld K (tVar 0) "ranks") (tVar 1)) [some v, some (.str n)] W1 i := fun W2 g2 Q k => by
      refine (ev_ranks (ε := pur) c (ep_var (i := 0) rfl hl1 fun W' g => hl1.s g)) W2 g2 _ fun u W3 g3 ⟨r, e3, d⟩ => ?_
      refine (ev_var (i := 1) rfl e : EvR pur K _ _ W1 n) W3 (g2.trans g3) _ fun z W4 g4 ez => ?_
      obtain ⟨a, ks, e4, _, h4, r4⟩ := d.s g4
      obtain ⟨w, h1, h2⟩ := r4.some hi
      cases e4
      exact ⟨r, w, e3, .inl ⟨ks, PyKey.key n, .inl h4, ez, h1.symm⟩, k _ W4 (g3.trans g4) h2⟩
    refine s_ret (ε := pur) dg trivial fun z W' g r => ?_
    rw [show z = _ from r]
    exact k W' (g1.trans g).pure
  · rw [hno] at has
    exact q_when (ε := pur) (b := true) ((et_not (et_B (K := K) (b := false) has)).is rfl) trivial (fun _ W1 g1 => s_raiseNL rfl fun W' d g => k W' d (g1.pure.trans g)) (fun z => by cases z)
end
end B
/-! words split, joined of drawn signs -/
namespace B
open PySem L2
open PySem.W (Tup T3 T4 Datum DatumOrd)
open Evl (Ex)
abbrev tSplit (K : Fg) (to te : TE) : TE := tM1 (fun x xs H Q => ∃ a b, x = .str a ∧ xs = [.str b] ∧ (b.length == 0) = false ∧ a.length + 2 ≤ sizeLine ∧ rNewStrs (Txt.split a b) H Q) to te
abbrev tJoin (K : Fg) (to te : TE) : TE := tM1 (fun x xs H Q => ∃ a p, ∃ ys : List Str, x = .str a ∧ xs = [.ref p] ∧ (SqL K H p (ys.map V.str) ∨ SqT K H p (ys.map V.str)) ∧ (ys.map (·.length)).sum + ys.length * a.length ≤ 16777216 ∧ Q (.str (Txt.join a ys)) H) to te
def IsSign (s : Str) : Prop := ∃ c, 97 ≤ c ∧ c ≤ 122 ∧ s = ⟨#[c]⟩
theorem joinL_nil : ∀ ps : List (List Nat), TL.joinL [] ps = ps.flatten
  | [] => rfl
  | [p] => by simp [TL.joinL]
  | p :: q :: r => by
    show p ++ ([] ++ TL.joinL [] (q :: r)) = _
    rw [joinL_nil (q :: r)]; simp
theorem signs_cps : ∀ ys : List Str, (∀ y ∈ ys, IsSign y) → ∃ cs : List Nat, cs.length = ys.length ∧ (∀ c ∈ cs, 97 ≤ c ∧ c ≤ 122) ∧ (ys.map fun y => y.cps.toList).flatten = cs
  | [], _ => ⟨[], rfl, fun _ h => (by simp at h), rfl⟩
  | y :: ys, h => by
    obtain ⟨c, h1, h2, rfl⟩ := h y List.mem_cons_self
    obtain ⟨cs, e1, e2, e3⟩ := signs_cps ys fun z hz => h z (List.mem_cons_of_mem _ hz)
    refine ⟨c :: cs, by simp [e1], fun d hd => ?_, by simp [← e3]⟩
    rcases List.mem_cons.mp hd with rfl | hd
    · exact ⟨h1, h2⟩
    · exact e2 d hd
theorem word_of {ys : List Str} (h : ∀ y ∈ ys, IsSign y) (h1 : 1 ≤ ys.length) (h2 : ys.length ≤ 6) : IsWord (Txt.join "" ys) := by
  obtain ⟨cs, e1, e2, e3⟩ := signs_cps ys h
  have e : (Txt.join "" ys).cps.toList = cs := by
    rw [TL.join_eq]
    have := TL.tl_join "" ys
    rw [show TL.tl "" = [] from rfl, joinL_nil] at this
    exact this.trans e3
  have l : (Txt.join "" ys).length = ys.length := by
    show (Txt.join "" ys).cps.size = _
    rw [← Array.length_toList, e, e1]
  exact ⟨by omega, by omega, fun c hc => e2 c (by rw [← e]; exact hc)⟩
theorem signs_sum : ∀ ys : List Str, (∀ y ∈ ys, IsSign y) → (ys.map (·.length)).sum = ys.length
  | [], _ => rfl
  | y :: ys, h => by
    obtain ⟨c, _, _, rfl⟩ := h y List.mem_cons_self
    rw [List.map_cons, List.sum_cons, signs_sum ys fun z hz => h z (List.mem_cons_of_mem _ hz), List.length_cons]
    show 1 + _ = _
    omega
section
variable {K : Fg} {W : Wd} {σ : SS} {ε : Ef} {te : TE}
theorem en_split {a b : Str} (hb : (b.length == 0) = false) (ha : a.length + 2 ≤ 100000) : EvN ε K (tSplit K (tC (.str a)) (tC (.str b))) σ W (Txt.split a b) := fun W1 g1 Q k =>
  ⟨⟨a, rfl⟩, a, b, rfl, rfl, hb, Evl.sz_of ha, fun p hp => k p _ (W1.put p _ (W1.free hp)) (g1.rf.and (W1.grow_put hp)) hp (W1.free hp) upd_same (str_reps _)⟩
/-- ''.join of drawn signs -/
theorem ep_join (h : EvP ε te σ W (fun v W' => ∃ (ys : List Str), 1 ≤ ys.length ∧ ys.length ≤ 6 ∧ (∀ y ∈ ys, IsSign y) ∧ rep K W'.B v ys)) : EvP ε (tJoin K (tC (.str "")) te) σ W (fun v _ => ∃ w, v = .str w ∧ IsWord w) := fun W1 g1 Q k =>
  ⟨⟨_, rfl⟩, h W1 g1 _ fun v W2 g2 ⟨ys, h1, h2, h3, a, vs, e, s, r⟩ => ⟨"", a, ys, rfl, by rw [e], .inl (by rw [← reps_str r]; exact SqL.of (W2.sub.el s)), by
    rw [signs_sum ys h3]
    show ys.length + ys.length * 0 ≤ _
    omega, k _ W2 g2 ⟨_, rfl, word_of h3 h1 h2⟩⟩⟩
end
theorem al_at : ∀ k, k < 26 → (("abcdefghijklmnopqrstuvwxyz" : Str)).cps.toList[k]? = some (97 + k) := by
  have : ∀ k ∈ List.range 26, (("abcdefghijklmnopqrstuvwxyz" : Str)).cps.toList[k]? = some (97 + k) := by decide +kernel
  exact fun k h => this k (List.mem_range.mpr h)
/-- what can be shown, in so many signs -/
structure ShowOk (b : Nat) (d : PyData) : Prop where
  sh : d.showable = true
  nd : d.hasDict = false
  ln : d.shown.length ≤ b
theorem ShowOk.up {b c : Nat} {d : PyData} (h : ShowOk b d) (hc : b ≤ c) : ShowOk c d := ⟨h.sh, h.nd, Nat.le_trans h.ln hc⟩
theorem show_int {i : Int} (h : i.natAbs.log2 < 1920) : ShowOk 1921 (.int i) := ⟨by simp [PyData.showable, h], by simp [PyData.hasDict], by
  simp only [PyData.shown]; exact PyProof.Rows.int_text_len_1921 h⟩
theorem show_none : ShowOk 1921 .none := ⟨by simp [PyData.showable], by simp [PyData.hasDict], by
  simp only [PyData.shown]
  have : (("None" : Str)).length = 4 := by decide +kernel
  omega⟩
theorem show_str {s : Str} (h : ∀ c ∈ s.cps.toList, c < 16 ^ 8) : ShowOk (10 * s.length + 2) (.str s) := ⟨by simp [PyData.showable], by simp [PyData.hasDict], by
  simp only [PyData.shown]; exact PySem.StrLaws.reprText_len s h⟩
theorem show_word {s : Str} (h : IsWord s) : ShowOk 1921 (.str s) := (show_str fun c hc => by
  have := h.ok c hc
  have : (122 : Nat) < 16 ^ 8 := by decide
  omega).up (by have := h.hi; omega)
theorem show_pair {b : Nat} {x y : PyData} (hx : ShowOk b x) (hy : ShowOk b y) : ShowOk (2 * b + 7) (.tuple [x, y]) := ⟨by simp [PyData.showable, PyData.showableAll, hx.sh, hy.sh], by simp [PyData.hasDict, PyData.hasDictAll, hx.nd, hy.nd], by
  simp only [PyData.shown, PyData.shownAll]
  have := tupleText_len_le [x.shown, y.shown]
  have h1 := hx.ln
  have h2 := hy.ln
  simp only [List.map_cons, List.map_nil, List.sum_cons, List.sum_nil, List.length_cons, List.length_nil] at this
  omega⟩
theorem show_all {b : Nat} : ∀ ds : List PyData, (∀ d ∈ ds, ShowOk b d) → PyData.showableAll ds = true ∧ PyData.hasDictAll ds = false ∧ ((PyData.shownAll ds).map (·.length)).sum ≤ ds.length * b ∧ (PyData.shownAll ds).length = ds.length
  | [], _ => ⟨by simp [PyData.showableAll], by simp [PyData.hasDictAll], by simp [PyData.shownAll], by simp [PyData.shownAll]⟩
  | d :: ds, h => by
    have h1 := h d List.mem_cons_self
    obtain ⟨a1, a2, a3, a4⟩ := show_all ds fun e he => h e (List.mem_cons_of_mem _ he)
    refine ⟨by simp [PyData.showableAll, h1.sh, a1], by simp [PyData.hasDictAll, h1.nd, a2], ?_, by simp [PyData.shownAll, a4]⟩
    simp only [PyData.shownAll, List.map_cons, List.sum_cons, List.length_cons]
    have := h1.ln
    have : (ds.length + 1) * b = ds.length * b + b := by rw [Nat.add_mul, Nat.one_mul]
    omega
/-- a text of so many signs that can be shown -/
structure TxB (b : Nat) (s : Str) : Prop where
  ln : s.length ≤ b
  ok : ∀ c ∈ s.cps.toList, c < 16 ^ 8
theorem TxB.up {a b : Nat} {s : Str} (h : TxB a s) (l : a ≤ b) : TxB b s := ⟨Nat.le_trans h.ln l, h.ok⟩
theorem len_app (x y : Str) : (x ++ y).length = x.length + y.length := by
  show (x.cps ++ y.cps).size = x.cps.size + y.cps.size
  rw [Array.size_append]
theorem TxB.app {a b : Nat} {x y : Str} (h : TxB a x) (h' : TxB b y) : TxB (a + b) (x ++ y) := ⟨by rw [len_app]; exact Nat.add_le_add h.ln h'.ln, fun c hc => by
  have hc : c ∈ (x.cps ++ y.cps).toList := hc
  rw [Array.toList_append] at hc
  rcases List.mem_append.mp hc with h1 | h1
  · exact h.ok c h1
  · exact h'.ok c h1⟩
theorem TxB.cut {b : Nat} {s : Str} (h : TxB b s) (lo hi : Option Int) : TxB b (cutS s lo hi) := by
  have e : (cutS s lo hi).cps.toList = (s.cps.toList.drop (HT.sIx s.length 0 lo)).take (HT.sIx s.length s.length hi - HT.sIx s.length 0 lo) := by unfold cutS; simp
  refine ⟨?_, fun c hc => ?_⟩
  · have h1 : (cutS s lo hi).length = (cutS s lo hi).cps.toList.length := by rw [Array.length_toList]; rfl
    rw [h1, e, List.length_take, List.length_drop, Array.length_toList]
    have : s.cps.size = s.length := rfl
    have := h.ln
    omega
  · rw [e] at hc
    exact h.ok c (List.mem_of_mem_drop (List.mem_of_mem_take hc))
theorem txb_word {s : Str} (h : IsWord s) : TxB 6 s := ⟨h.hi, fun c hc => by
  have := h.ok c hc
  have : (122 : Nat) < 16 ^ 8 := by decide
  omega⟩
theorem txb_sign {c : Nat} (h : c < 16 ^ 8) : TxB 1 (⟨#[c]⟩ : Str) := ⟨Nat.le_refl 1, fun d hd => by
  have hd : d ∈ [c] := hd
  rw [List.mem_singleton.mp hd]; exact h⟩
theorem up26 : ∀ k ∈ List.range 26, Unicode.upperOf (97 + k) = [65 + k] := by decide +kernel
theorem up_sign {c : Nat} (h1 : 97 ≤ c) (h2 : c ≤ 122) : Unicode.upperOf c = [c - 32] := by
  have := up26 (c - 97) (List.mem_range.mpr (by omega))
  rw [show 97 + (c - 97) = c by omega, show 65 + (c - 97) = c - 32 by omega] at this
  exact this
theorem txb_upper {s : Str} (h : IsWord s) : TxB 18 (Txt.upper s) := ⟨by have := PyProof.Rows.len_upper s; have := h.hi; omega, fun d hd => by
  have hd : d ∈ (placed s fun _ c => Unicode.upperOf c).toList := hd
  unfold placed at hd
  rw [Array.mem_toList_iff, Array.mem_flatten] at hd
  obtain ⟨a, ha, hda⟩ := hd
  obtain ⟨i, hi, rfl⟩ := Array.mem_mapIdx.mp ha
  have hc := h.ok s.cps[i] (by rw [Array.mem_toList_iff]; exact Array.getElem_mem hi)
  have hda : d ∈ (Unicode.upperOf s.cps[i]).toArray := hda
  rw [up_sign hc.1 hc.2] at hda
  have : d = s.cps[i] - 32 := by simpa using hda
  have : (122 : Nat) < 16 ^ 8 := by decide
  omega⟩
section
variable {K : Fg} {W : Wd} {σ : SS} {ε : Ef} {te : TE}
theorem ro_catS {x y : Str} (h : x.length + y.length ≤ 100000) : RO K oCatS x y (x ++ y) := ro_val fun v u W2 rv ru Q k => ⟨x, y, rv, ru, Evl.sz_of h, k _ rfl⟩
theorem ev_slS {tl th : TO} {s : Str} {lo hi : Option Int} (h : EvR ε K te σ W s) (h1 : EvO ε tl σ W lo) (h2 : EvO ε th σ W hi) (hl : s.length ≤ 100000) : EvR ε K (tSl rSlS te tl th) σ W (cutS s lo hi) := fun W1 g1 Q k =>
  h W1 g1 _ fun v W2 g2 rx => h1 W2 (g1.trans g2) _ fun W3 g3 => h2 W3 ((g1.trans g2).trans g3) _ fun W4 g4 => ⟨s, rx, Evl.sz_of hl, k _ W4 ((g2.trans g3).trans g4) rfl⟩
theorem ev_upper {s : Str} (h : EvR ε K te σ W s) (hl : s.length ≤ 1000) : EvR ε K (tM0 rUpper te) σ W (Txt.upper s) := fun W1 g1 Q k =>
  h W1 g1 _ fun v W2 g2 rx => ⟨⟨s, rx⟩, s, rx, rfl, by omega, k _ W2 g2 rfl⟩
end
end B
/-! the laws' letters: unlike words, any, or of the document -/
namespace B
open PySem L2
open PySem.W (Tup T3 T4 Datum DatumOrd)
open Evl (Ex)
theorem was_noneN {S : List Addr} {W W' : Wd} {p : Addr} (g : Md S W W') (f : W'.H p = none) : W.H p = none := by
  cases q : W.H p with
  | none => rfl
  | some o => exact absurd f (g.d p (by rw [q]; exact fun z => by cases z))
theorem reps_memN {α : Type} [Py α] {K : Fg} {H : Hp} {v : V} : ∀ {vs : List V} {xs : List α}, Reps K H vs xs → v ∈ vs → ∃ x, x ∈ xs ∧ rep K H v x
  | _, _, .nil, h => by cases h
  | _, x :: _, .cons r t, h => by
    rcases List.mem_cons.mp h with e | e
    · subst e; exact ⟨x, List.mem_cons_self, r⟩
    · obtain ⟨y, hy, ry⟩ := reps_memN t e
      exact ⟨y, List.mem_cons_of_mem _ hy, ry⟩
section
variable {K : Fg} {p c : Addr} {W : Wd} {σ : SS} {te tf : TE} {i : Nat} {α β : Type} [Py α] [Py β] {P : α → Prop}
/-- one of these, drawn -/
theorem ex_pick {R : List α → Prop} (h0 : σ[i]? = some (some (.ref p))) (h : EvX (drw p c) K te σ W R) (hR : ∀ xs, R xs → xs ≠ [] ∧ xs.length < 100000 ∧ ∀ x ∈ xs, P x) : EvX (drw p c) K (tCall (sp__law_pick K) [] E0 (tCons (tVar i) (tCons te tNil))) σ W P := fun W1 g1 Q k =>
  ⟨_, h0, h W1 g1 _ fun v W2 g2 ⟨xs, px, a, vs, e, s, r⟩ => by
    obtain ⟨h1, h2, h3⟩ := hR xs px
    have ln := Reps.len r
    refine ⟨W2, p, c, a, vs, rfl, by rw [e]; rfl, (show St W2 p c from g2.i), s, fun z => h1 (List.eq_nil_of_length_eq_zero (by rw [← ln, z]; rfl)), by omega, fun y W3 hy m s3 => ?_⟩
    obtain ⟨x, hx, rx⟩ := reps_memN r hy
    exact k y W3 (g2.trans ⟨m, s3⟩) ⟨x, h3 x hx, Py.mono (exExt m.b) rx⟩⟩
/-- a drawn number > m -/
theorem ep_gtD {m : Int} {P : Int → Prop} {ε : Ef} (h : EvP ε te σ W (fun v _ => ∃ n, v = .int n ∧ P n)) : EvP ε (tOp oGt te (tC (.int m))) σ W (fun v _ => ∃ b : Bool, v = .bl b) := fun W1 g1 Q k => h W1 g1 _ fun v W2 g2 ⟨n, e, p⟩ => by
  subst e
  exact ⟨n, m, rfl, rfl, k _ W2 g2 ⟨_, rfl⟩⟩
/-- x not in ys, ys a list that may change -/
theorem et_ninM {x : Str} {i j : Nat} {d : Addr} {ys : List Str} (h1 : σ[i]? = some (some (.str x))) (h2 : σ[j]? = some (some (.ref d))) (m : LMut K W d ys) : EvT pur (tTest (tOp (rInTL K true) (tVar i) (tVar j))) σ W (!decide (x ∈ ys)) := fun W1 g1 Q k => by
  obtain ⟨vs, e, r⟩ := (m.gr g1.pure).ex
  refine ⟨_, h1, _, h2, Str, inferInstance, inferInstance, x, ys, PyD.dp (α := Str) rfl, PyD.dp (α := List Str) ⟨d, vs, rfl, e, Reps.mono W1.sub r⟩, by decide, _, rfl, ?_⟩
  show Q (if true = true then !decide (x ∈ ys) else decide (x ∈ ys)) W1.H
  rw [if_pos rfl]
  exact k W1 g1.rf
end
/-! ### candidates -/
theorem cut5_list (w : Str) : (cutS w none (some 5)).cps.toList = w.cps.toList.take 5 := by
  have e : (cutS w none (some 5)).cps.toList = (w.cps.toList.drop (HT.sIx w.length 0 none)).take (HT.sIx w.length w.length (some 5) - HT.sIx w.length 0 none) := by unfold cutS; simp
  rw [e]
  have h0 : HT.sIx w.length 0 none = 0 := rfl
  have h5 : HT.sIx w.length w.length (some 5) = min 5 w.length := HT.sIx_nat w.length w.length 5
  rw [h0, h5, List.drop_zero, Nat.sub_zero]
  rcases Nat.le_total 5 w.length with h | h
  · rw [Nat.min_eq_left h]
  · rw [Nat.min_eq_right h, List.take_of_length_le (by rw [Array.length_toList]; exact Nat.le_refl _), List.take_of_length_le (by rw [Array.length_toList]; exact h)]
def candsN (w : Str) : List Str := [w] ++ (signs abcT).map fun s => cutS w none (some 5) ++ s
theorem signs_abc : signs abcT = (List.range 26).map fun k => (⟨#[97 + k]⟩ : Str) := by
  unfold signs
  rw [abc_list, List.map_map]
  rfl
theorem app_list (x y : Str) : (x ++ y).cps.toList = x.cps.toList ++ y.cps.toList := by
  show (x.cps ++ y.cps).toList = _
  rw [Array.toList_append]
theorem cand_word {w : Str} (h : IsWord w) {k : Nat} (hk : k < 26) : IsWord (cutS w none (some 5) ++ (⟨#[97 + k]⟩ : Str)) := by
  have e : (cutS w none (some 5) ++ (⟨#[97 + k]⟩ : Str)).cps.toList = w.cps.toList.take 5 ++ [97 + k] := by rw [app_list, cut5_list]
  have l : (cutS w none (some 5) ++ (⟨#[97 + k]⟩ : Str)).length = min 5 w.length + 1 := by
    show (cutS w none (some 5) ++ (⟨#[97 + k]⟩ : Str)).cps.size = _
    rw [← Array.length_toList, e, List.length_append, List.length_take, Array.length_toList]
    rfl
  refine ⟨by omega, by omega, fun c hc => ?_⟩
  rw [e] at hc
  rcases List.mem_append.mp hc with hc | hc
  · exact h.ok c (List.mem_of_mem_take hc)
  · rw [List.mem_singleton.mp hc]; omega
theorem cands_word {w : Str} (h : IsWord w) : ∀ x ∈ candsN w, IsWord x := fun x hx => by
  unfold candsN at hx
  rw [signs_abc, List.map_map] at hx
  rcases List.mem_append.mp hx with hx | hx
  · rw [List.mem_singleton.mp hx]; exact h
  · obtain ⟨k, hk, rfl⟩ := List.mem_map.mp hx
    exact cand_word h (List.mem_range.mp hk)
theorem cands_len (w : Str) : (candsN w).length = 27 := by
  unfold candsN
  rw [signs_abc, List.length_append, List.length_map, List.length_map, List.length_range]
  rfl
theorem cands_nd (w : Str) : ((List.range 26).map fun k => cutS w none (some 5) ++ (⟨#[97 + k]⟩ : Str)).Nodup := by
  rw [List.nodup_iff_pairwise_ne, List.pairwise_map]
  refine (List.nodup_range (n := 26)).imp fun {a b} hab e => hab ?_
  have := congrArg (fun s : Str => s.cps.toList) e
  simp only [app_list] at this
  have := List.append_cancel_left this
  have h2 : [97 + a] = [97 + b] := this
  have h3 := List.head_eq_of_cons_eq h2
  omega
theorem cands_new {w : Str} {ys : List Str} (hl : ys.length < 26) : ∃ x, ((candsN w).filter fun x => !decide (x ∈ ys))[0]? = some x := by
  rw [← List.head?_eq_getElem?]
  cases e : ((candsN w).filter fun x => !decide (x ∈ ys)).head? with
  | some x => exact ⟨x, rfl⟩
  | none =>
    exfalso
    have hn := List.head?_eq_none_iff.mp e
    have := nodup_le (cands_nd w) (m := ys) fun x hx => by
      apply Classical.byContradiction
      intro z
      have : x ∈ (candsN w).filter fun x => !decide (x ∈ ys) := List.mem_filter.mpr ⟨by
        unfold candsN
        rw [signs_abc, List.map_map]
        exact List.mem_append_right _ hx, by rw [decide_eq_false z]; rfl⟩
      rw [hn] at this
      cases this
    rw [List.length_map, List.length_range] at this
    omega
def ownN : List Str := ["in", "lost", "kept", "jars", "marks", "chest", "fresh", "feed", "ann", "bob", "a", "z"]
theorem own_eq : Txt.split "in lost kept jars marks chest fresh feed ann bob a z" " " = ownN := by decide +kernel
theorem own_words : ∀ s ∈ ownN, IsWord s := by
  intro s hs
  have h : ∀ s ∈ ownN, 1 ≤ s.length ∧ s.length ≤ 6 ∧ ∀ c ∈ s.cps.toList, 97 ≤ c ∧ c ≤ 122 := by decide +kernel
  exact ⟨(h s hs).1, (h s hs).2.1, (h s hs).2.2⟩
def sp__law_names (K : Fg) : Sp := fun vs H Q _ => ∃ (W : Wd) (p c : Addr) (n : Int), W.H = H ∧ vs = [.ref p, .int n] ∧ St W p c ∧ 0 ≤ n ∧ n ≤ 20 ∧
  ∀ v (names : List Str) W', Md [p, c] W W' → St W' p c → rep K W'.B v names → names.Nodup → (∀ s ∈ names, IsWord s) → (names.length : Int) = n → Q v W'.H
theorem len__law_names {K : Fg} {vs : List V} {H : Hp} {Q : VK} {E : XK} (h : sp__law_names K vs H Q E) : vs.length = ["_law_state", "_law_many"].length := by
  obtain ⟨W, p, c, n, _, rfl, _⟩ := h
  rfl
/-- _law_names: the slots 0 _law_state, 1 _law_many, 2 _law_own, 3 _law_found, 4 _law_k, 5 _law_word, 6 _law_j, 7 _law_some, 8 _law_sign, 9 _law_one -/
abbrev n__law_names : List Str := ["_law_state", "_law_many", "_law_own", "_law_found", "_law_k", "_law_word", "_law_j", "_law_some", "_law_sign", "_law_one"]
def t__law_names (K : Fg) : TS := (tSeq (tAsg (tSplit K (tC (.str "in lost kept jars marks chest fresh feed ann bob a z")) (tC (.str " "))) (gName 2))
  (tSeq (tAsg (tLst tNil) (gName 3))
  (tSeq (tFor (iRng1 (tCons (tVar 1) tNil)) (gName 4)
  (tSeq (tAsg (tCall (sp__law_pick K) [] E0 (tCons (tVar 0) (tCons (tVar 2) tNil))) (gName 5))
  (tSeq (tIfS (tTest (tOp oGt (tCall (sp__law_draw K) [] E0 (tCons (tVar 0) (tCons (tC (.int 3)) tNil))) (tC (.int 0)))) (tAsg (tJoin K (tC (.str "")) (tLc (iRng1 (tCons (tOp oAdd (tC (.int 1)) (tCall (sp__law_draw K) [] E0 (tCons (tVar 0) (tCons (tC (.int 6)) tNil)))) tNil)) (gName 6) tYes (tOp rIxS (tC (.str "abcdefghijklmnopqrstuvwxyz")) (tCall (sp__law_draw K) [] E0 (tCons (tVar 0) (tCons (tC (.int 26)) tNil)))) [6])) (gName 5)) tNext)
  (tSeq (tAsg (tOp rCat (tLst (tCons (tVar 5) tNil)) (tLc (iStr (tC (.str "abcdefghijklmnopqrstuvwxyz"))) (gName 8) tYes (tOp oCatS (tSl rSlS (tVar 5) tNoPart (tPart (tC (.int 5)))) (tVar 8)) [8])) (gName 7))
  (tDrop (tBM K "list" rAppend (tVar 3) (tCons (tOp (rIxL K) (tLc (iList K (tVar 7)) (gName 9) (tTest (tOp (rInTL K true) (tVar 9) (tVar 3))) (tVar 9) [9]) (tC (.int 0))) tNil)))))))
  (tRet (tVar 3)))))
section
variable {K : Fg}
theorem rd__law_names {vs : List V} {H : Hp} {Q : VK} {E : XK} (h : sp__law_names K vs H Q E) : t__law_names K { nx := fun _ H' => Q .non H', rt := Q } (start n__law_names vs) H := by
  obtain ⟨W, p, c, n, rfl, rfl, st, n0, n20, k⟩ := h
  show t__law_names K _ [some (.ref p), some (.int n), none, none, none, none, none, none, none, none] W.H
  refine q_asg (ε := pur) (K := K) (x := ownN) (EvR.is (EvN.toR (en_split (by decide +kernel) (by decide +kernel))) own_eq) trivial fun vo W1 g1 ro => ?_
  refine q_asgN (ε := pur) (K := K) (xs := ([] : List Str)) (en_lst ea_nil (by decide)) trivial fun fa vs3 W3 g3' ff3 bf3 ef3 rf3 => ?_
  have g3 := g1.pure.trans g3'.pure
  have mf3 : LMut K W3 fa ([] : List Str) := ⟨bf3, vs3, ef3, rf3⟩
  have ro3 : rep K W3.B vo ownN := rep_s g3' ro
  have st3 := st.g g3
  have ffW : W.H fa = none := was_noneN g1.pure ff3
  have hp := st.dom
  have fap : fa ≠ p := fun z => hp.1 (by rw [← z]; exact ffW)
  have fac : fa ≠ c := fun z => hp.2 (by rw [← z]; exact ffW)
  have fS : fa ∉ (drw p c).S := by simp [drw, fap, fac]
  let S : Option V → Option V → Option V → Option V → Option V → Option V → SS := fun v4 v5 v6 v7 v8 v9 => [some (.ref p), some (.int n), some vo, some (.ref fa), v4, v5, v6, v7, v8, v9]
  show tSeq _ _ _ (S none none none none none none) W3.H
  refine q_for (ε := pur) (K := K) (W := W3) (σ := S none none none none none none) (xs := rng 0 n.toNat) (ei_rng1 (n := n) (ev_var (i := 1) rfl rfl) (by omega) (by omega)) trivial fun W4 g4 =>
    ⟨fun i σ' W' => ∃ (v4 v5 v6 v7 v8 v9 : Option V) (ys : List Str), σ' = S v4 v5 v6 v7 v8 v9 ∧ On W4 W' ∧ Md [p, c] W W' ∧ St W' p c ∧ LMut K W' fa ys ∧ ys.Nodup ∧ (∀ w ∈ ys, IsWord w) ∧ ys.length = i,
      ⟨none, none, none, none, none, none, [], rfl, .refl _, Grow.s (g3.trans g4.pure), st3.g g4.pure, mf3.gr g4.pure, List.nodup_nil, (fun w h => by cases h), rfl⟩, fun i σ' W' ⟨_, _, _, _, _, _, _, _, o, _⟩ => o, ?_, ?_⟩
  · rintro i x vx σ' W5' W5 hi hx ⟨_, v5, v6, v7, v8, v9, ys, rfl, o5', M5', s5', m5', nd, wd, yl⟩ g5 rx
    have o5 := o5'.trans g5.on
    have M5 := M5'.trans (Grow.s g5)
    have s5 := s5'.g g5
    have m5 := m5'.gr g5
    have hi' : i < 20 := by rw [rng_len] at hi; omega
    have ro5 : rep K W5.B vo ownN := rep_on (g4.on.trans o5) ro3
    show tSeq _ _ _ (S (some vx) v5 v6 v7 v8 v9) W5.H
    -- found.append([one for one in [word] + .. if one not in found][0])
    have fin : ∀ {D : Ends} (W8 : Wd) (w : Str) (v6 v7 v8 v9 : Option V), On W4 W8 → Md [p, c] W W8 → St W8 p c → LMut K W8 fa ys → IsWord w →
        (∀ (v7 v8 v9 : Option V) (ys' : List Str) (W9 : Wd), On W4 W9 → Md [p, c] W W9 → St W9 p c → LMut K W9 fa ys' → ys'.Nodup → (∀ w ∈ ys', IsWord w) → ys'.length = i + 1 → D.nx (S (some vx) (some (.str w)) v6 v7 v8 v9) W9.H) →
        tSeq (tAsg (tOp rCat (tLst (tCons (tVar 5) tNil)) (tLc (iStr (tC (.str "abcdefghijklmnopqrstuvwxyz"))) (gName 8) tYes (tOp oCatS (tSl rSlS (tVar 5) tNoPart (tPart (tC (.int 5)))) (tVar 8)) [8])) (gName 7))
          (tDrop (tBM K "list" rAppend (tVar 3) (tCons (tOp (rIxL K) (tLc (iList K (tVar 7)) (gName 9) (tTest (tOp (rInTL K true) (tVar 9) (tVar 3))) (tVar 9) [9]) (tC (.int 0))) tNil))) D (S (some vx) (some (.str w)) v6 v7 v8 v9) W8.H := fun {D} W8 w v6 v7 v8 v9 o8 M8 s8 m8 hw kD => by
      have eS : ∀ {i : Str} {W : Wd}, rep K W.B (V.str i) i := rfl
      have hlw : w.length ≤ 100000 := by have := hw.hi; omega
      refine q_asg (ε := pur) (K := K) (x := candsN w) (ev_op (ev_lst (ea_cons (ev_var (i := 5) rfl eS) ea_nil) (by show 1 ≤ 100000; decide)) (ev_lcN (K := K) (j := 8) (f := fun s => cutS w none (some 5) ++ s) (ei_str (x := abcT) ev_str).i (fun x v W' hx g r => ev_op (ev_slS (ev_var (i := 5) rfl eS) eo_none (eo_some (K := K) ev_int) hlw) (ev_var (i := 8) rfl r) (ro_catS (by
          rw [signs_abc] at hx
          obtain ⟨kk, _, rfl⟩ := List.mem_map.mp hx
          have h1 : (cutS w none (some 5)).length ≤ 5 := by
            show (cutS w none (some 5)).cps.size ≤ 5
            rw [← Array.length_toList, cut5_list, List.length_take]
            exact Nat.min_le_left _ _
          have h2 : (⟨#[97 + kk]⟩ : Str).length = 1 := rfl
          omega))) (by rw [signs_abc, List.length_map, List.length_range]; decide)) (ro_cat (by rw [signs_abc]; simp))) trivial fun v7 W9 g9 r7 => ?_
      have m9 := m8.gr g9.pure
      obtain ⟨x0, hx0⟩ := cands_new (w := w) (ys := ys) (by omega)
      have hx1 : x0 ∈ (candsN w).filter fun x => !decide (x ∈ ys) := List.mem_of_getElem? hx0
      obtain ⟨hx2, hx3⟩ := List.mem_filter.mp hx1
      have hx4 : x0 ∉ ys := by simpa using hx3
      show tDrop _ D (S (some vx) (some (.str w)) v6 (some v7) v8 v9) W9.H
      refine s_append (σ := S (some vx) (some (.str w)) v6 (some v7) v8 v9) (i := 3) (y := x0) rfl m9 (ev_op (K := K) (x := ((candsN w).filter fun x => !decide (x ∈ ys)).map id) (y := (0 : Int)) (ev_lcNt (K := K) (j := 9) (p := fun x => !decide (x ∈ ys)) (f := id) (ei_list (ev_var (i := 7) rfl r7)).i (fun x v W' hx g r => by
          rw [show v = V.str x from r]
          exact et_ninM (i := 9) (j := 3) rfl rfl (m9.gr g.pure)) (fun x v W' hx hp g r => ev_var (i := 9) rfl r) (by rw [cands_len]; decide)) ev_int (ro_ixL (by rw [List.map_id]; exact atI_nat (j := 0) hx0))) (by omega) fun W10 g10 o10 m10 => ?_
      have M10 : Md [p, c] W W10 := Md.fresh (M8.trans (Grow.s g9.pure)) (g10.mono (by simp)) ffW
      refine kD (some v7) v8 v9 (ys ++ [x0]) W10 ((o8.trans g9.on).trans o10) M10 ((s8.g g9.pure).off g10 (by simp [fap.symm]) (by simp [fac.symm])) m10 ?_ (fun z hz => ?_) (by simp [yl])
      · rw [List.nodup_append]
        exact ⟨nd, by simp, fun a ha b hb e => hx4 (by rw [← List.mem_singleton.mp hb, ← e]; exact ha)⟩
      · rcases List.mem_append.mp hz with hz | hz
        · exact wd z hz
        · rw [List.mem_singleton.mp hz]
          exact cands_word hw x0 hx2
    refine q_asgP (ε := drw p c) (ex_pick (K := K) (i := 0) (P := fun s => s ∈ ownN) (R := fun xs => xs = ownN) rfl (ex_of (ev_var (i := 2) rfl ro5) rfl) fun xs h => by subst h; exact ⟨by decide +kernel, by show 12 < 100000; decide, fun _ h => h⟩) s5 fun w5 W6 g6 ⟨w, hw, rw5⟩ => ?_
    rw [show w5 = V.str w from rw5]
    have hw := own_words w hw
    have o6 := o5.trans g6.on
    have M6 := M5.trans g6.md
    have s6 : St W6 p c := g6.i
    have m6 := m5.g g6.md fS
    have kD : ∀ {w : Str} {v6 : Option V} (v7 v8 v9 : Option V) (ys' : List Str) (W9 : Wd), On W4 W9 → Md [p, c] W W9 → St W9 p c → LMut K W9 fa ys' → ys'.Nodup → (∀ w ∈ ys', IsWord w) → ys'.length = i + 1 →
      ∃ W' : Wd, W'.H = W9.H ∧ ∃ (a4 a5 a6 a7 a8 a9 : Option V) (ys : List Str), S (some vx) (some (.str w)) v6 v7 v8 v9 = S a4 a5 a6 a7 a8 a9 ∧ On W4 W' ∧ Md [p, c] W W' ∧ St W' p c ∧ LMut K W' fa ys ∧ ys.Nodup ∧ (∀ w ∈ ys, IsWord w) ∧ ys.length = i + 1 :=
      fun v7 v8 v9 ys' W9 o9 M9 s9 m9 nd9 wd9 yl9 => ⟨W9, rfl, _, _, _, _, _, _, ys', rfl, o9, M9, s9, m9, nd9, wd9, yl9⟩
    show tSeq _ _ _ (S (some vx) (some (.str w)) v6 v7 v8 v9) W6.H
    refine q_whenQ (ε := drw p c) (W := W6) (σ := S (some vx) (some (.str w)) v6 v7 v8 v9) (etq (ep_gtD (P := fun n => 0 ≤ n ∧ n < 3) (ev_draw (K := K) (i := 0) rfl (ev_int (n := 3)) (by decide) (by decide)))) s6 (fun W7 g7 => ?_) (fun W7 g7 => ?_)
    · have joined : EvP (drw p c) (tJoin K (tC (.str "")) (tLc (iRng1 (tCons (tOp oAdd (tC (.int 1)) (tCall (sp__law_draw K) [] E0 (tCons (tVar 0) (tCons (tC (.int 6)) tNil)))) tNil)) (gName 6) tYes (tOp rIxS (tC (.str "abcdefghijklmnopqrstuvwxyz")) (tCall (sp__law_draw K) [] E0 (tCons (tVar 0) (tCons (tC (.int 26)) tNil)))) [6]))
          (S (some vx) (some (.str w)) v6 v7 v8 v9) W7 (fun v _ => ∃ w, v = .str w ∧ IsWord w) := by
        refine ep_join (fun W1 g1 Q q => (ep_lcQ (α := Int) (β := Str) (R := IsSign) (ei_rngQ (P := fun n => 1 ≤ n ∧ n ≤ 6) (fun W1 g1 Q q => ep_add (m := 1) (P := fun n => 0 ≤ n ∧ n < 6) (ev_draw (K := K) (i := 0) rfl (ev_int (n := 6)) (by decide) (by decide)) W1 g1 Q fun v W2 g2 ⟨n, e, h⟩ => q v W2 g2 ⟨1 + n, e, by omega, by omega⟩) (fun n h => by omega)) (fun xs ⟨n, h, e⟩ => by rw [e, rng_len]; omega) (fun x v W' g rx W1 g1 Q q => ?_)) W1 g1 Q fun v W2 g2 ⟨xs', ys', ⟨n, h, e⟩, hl, hs, hr⟩ => q v W2 g2 ⟨ys', by rw [hl, e, rng_len]; omega, by rw [hl, e, rng_len]; omega, hs, hr⟩)
        refine ev_draw (K := K) (σ := (wipe (S (some vx) (some (.str w)) v6 v7 v8 v9) [6]).set 6 (some v)) (i := 0) (p := p) (c := c) rfl (ev_int (n := 26)) (by decide) (by decide) W1 g1 _ fun u W2 g2 ⟨z, e, z0, z1⟩ => ?_
        obtain ⟨zz, rfl⟩ : ∃ zz : Nat, z = zz := ⟨z.toNat, by omega⟩
        exact ⟨abcT, zz, 97 + zz, rfl, e, by decide +kernel, atI_nat (al_at zz (by omega)), q _ W2 g2 ⟨⟨#[97 + zz]⟩, ⟨97 + zz, by omega, by omega, rfl⟩, rfl⟩⟩
      refine s_asgP (ε := drw p c) joined g7.i fun v W9 g9 ⟨w', e9, hw'⟩ => ?_
      subst e9
      have g79 := g7.trans g9
      exact fin W9 w' v6 v7 v8 v9 (o6.trans g79.on) (M6.trans g79.md) g79.i (m6.g g79.md fS) hw' kD
    · exact fin W7 w v6 v7 v8 v9 (o6.trans g7.on) (M6.trans g7.md) g7.i (m6.g g7.md fS) hw kD
  · rintro σ' W5 ⟨v4, v5, v6, v7, v8, v9, ys, rfl, o5, M5, s5, mf5, nd, wd, yl⟩
    obtain ⟨o, ho, rf, ex, kf⟩ := mf5.fix
    rw [rng_len] at yl
    refine ⟨_, rfl, ?_⟩
    exact k (.ref fa) ys (W5.fix fa o ho) (kf W [p, c] M5 ffW) (s5.keep rfl rfl (upd_ne fap.symm) (upd_ne fac.symm)) rf nd wd (by omega)
end
end B
set_option maxHeartbeats 8000000
/-! k01: strange things, rows bent, the law's own looks -/
namespace B
open PySem L2 PySem.Spec PyProof.Rows
open PySem.W (Tup T3 T4 Datum DatumOrd)
open Evl (Ex)
/-! ### things near a name -/
structure OddOk (d : PyData) : Prop where
  tx : TxOk d
  sh : d.showable = true
  dp : d.depth ≤ 40
  ln : d.shown.length ≤ 10000
theorem odd_str {b : Nat} {s : Str} (h : TxB b s) (hb : b ≤ 100) : OddOk (.str s) := by
  have l := h.ln
  have h2 := show_str h.ok
  exact ⟨(by show s.length ≤ 1000; omega), h2.sh, by simp [PyData.depth], Nat.le_trans h2.ln (by omega)⟩
theorem odd_tup {s : Str} (h : IsWord s) : OddOk (.tuple [.str s]) := ⟨trivial, by simp [PyData.showable, PyData.showableAll], by simp [PyData.depth, PyData.depthAll], by
  simp only [PyData.shown, PyData.shownAll]
  have h1 := (show_word h).ln
  simp only [PyData.shown] at h1
  have := tupleText_len_le [reprText s]
  simp only [List.map_cons, List.map_nil, List.sum_cons, List.sum_nil, List.length_cons, List.length_nil] at this
  omega⟩
theorem odd_lst {s : Str} (h : IsWord s) : OddOk (.list [.str s]) := ⟨trivial, by simp [PyData.showable, PyData.showableAll], by simp [PyData.depth, PyData.depthAll], by
  simp only [PyData.shown, PyData.shownAll]
  have h1 := (show_word h).ln
  simp only [PyData.shown] at h1
  have := listText_len_le [reprText s]
  simp only [List.map_cons, List.map_nil, List.sum_cons, List.sum_nil, List.length_cons, List.length_nil] at this
  omega⟩
theorem odd_lit {d : PyData} (t : TxOk d) (h : (d.showable && (decide (d.depth ≤ 40) && decide (d.shown.length ≤ 10000))) = true) : OddOk d := by
  simp only [Bool.and_eq_true, decide_eq_true_eq] at h
  exact ⟨t, h.1, h.2.1, h.2.2⟩
theorem fold_arr : ∀ (l : List (Array Nat)) (acc : Array Nat), (l.foldl (· ++ ·) acc).toList = acc.toList ++ (l.map Array.toList).flatten
  | [], acc => by simp
  | x :: l, acc => by
    rw [List.foldl_cons, fold_arr l]
    simp
theorem txb_mul7 {s : Str} (h : IsWord s) : TxB 42 (Txt.mul s 7) := by
  have hl : ¬ (s.length == 0) = true := by
    have := h.lo
    simp; omega
  have e : (Txt.mul s 7).cps.toList = ((List.replicate 7 s.cps).map Array.toList).flatten := by
    unfold Txt.mul
    rw [if_neg (by decide), if_neg (by simpa using hl)]
    show ((List.replicate 7 s.cps).foldl (· ++ ·) #[]).toList = _
    rw [fold_arr]
    simp
  refine ⟨?_, fun c hc => ?_⟩
  · show (Txt.mul s 7).cps.size ≤ 42
    rw [← Array.length_toList, e]
    have : s.cps.toList.length ≤ 6 := by rw [Array.length_toList]; exact h.hi
    simp only [List.replicate, List.map_cons, List.map_nil, List.flatten_cons, List.flatten_nil, List.length_append, List.length_nil]
    omega
  · rw [e] at hc
    obtain ⟨x, hx, hc⟩ := List.mem_flatten.mp hc
    obtain ⟨y, hy, rfl⟩ := List.mem_map.mp hx
    rw [List.eq_of_mem_replicate hy] at hc
    exact (txb_word h).ok c hc
theorem mul7_ok {s : Str} (h : IsWord s) : MulOk s 7 := by
  have := h.hi
  refine ⟨by decide, fun _ _ => ?_, fun _ _ => ?_⟩
  · show ¬ ((s.length : Int) > (2 ^ 63 - 1) / 7)
    have : ((2 ^ 63 - 1) / 7 : Int) = 1317624576693539401 := by decide +kernel
    omega
  · show decide (s.length * (7 : Int).toNat > sizeLine) = false
    have h1 : s.length * (7 : Int).toNat ≤ 100000 := by show s.length * 7 ≤ _; omega
    have := Evl.sz_of h1
    exact decide_eq_false (by omega)
theorem txb_rev {s : Str} (h : IsWord s) : TxB 6 (stepS s none none (-1)) := by
  have e : (stepS s none none (-1)).cps.toList = (Builtin.Str.strSliceIndices none none (-1) s.length).filterMap (s.cps[·]?) := by unfold stepS; simp
  refine ⟨?_, fun c hc => ?_⟩
  · show (stepS s none none (-1)).cps.size ≤ 6
    rw [← Array.length_toList, e]
    refine Nat.le_trans (List.length_filterMap_le _ _) ?_
    rw [picked_rev, List.length_map, List.length_range]
    exact h.hi
  · rw [e] at hc
    obtain ⟨i, _, hi⟩ := List.mem_filterMap.mp hc
    exact (txb_word h).ok c (by rw [Array.mem_toList_iff]; exact Array.mem_of_getElem? hi)
theorem txb_lit {b : Nat} {s : Str} (h : (decide (s.length ≤ b) && s.cps.toList.all fun c => decide (c < 16 ^ 8)) = true) : TxB b s := by
  simp only [Bool.and_eq_true, decide_eq_true_eq, List.all_eq_true] at h
  exact ⟨h.1, h.2⟩
theorem ro_mulS {K : Fg} {x : Str} {n : Int} (h : MulOk x n) : RO K rMulS x n (Txt.mul x n) := ro_val fun v u _ rv ru Q k => ⟨x, n, rv, ru, h, k _ rfl⟩
section
variable {K : Fg} {W : Wd} {σ : SS} {ε : Ef} {te : TE}
theorem ev_revS {s : Str} (h : EvR ε K te σ W s) (hw : IsWord s) : EvR ε K (tStrStep te none none (-1)) σ W (stepS s none none (-1)) := fun W1 g1 Q k => h W1 g1 _ fun v W2 g2 r => ⟨s, r, Evl.sz_of (by have := (txb_rev hw).ln; omega), k _ W2 g2 rfl⟩
theorem ev_gvo {d : PyData} (h : EvR ε K te σ W d) (k1 : kitB (dcls d) "list" = some false) (k2 : kitB (dcls d) "tuple" = some false) : EvR ε K te σ W (GV.o d) := fun W1 g1 Q k => h W1 g1 Q fun v W2 g2 r => k v W2 g2 ⟨r, k1, k2⟩
theorem ev_gvl {ds : List PyData} (h : EvR ε K te σ W ds) : EvR ε K te σ W (GV.l ds) := fun W1 g1 Q k => h W1 g1 Q fun v W2 g2 r => k v W2 g2 r
theorem ev_gvt {ds : List PyData} (h : EvR ε K te σ W (Tup.mk ds)) : EvR ε K te σ W (GV.t ds) := fun W1 g1 Q k => h W1 g1 Q fun v W2 g2 r => k v W2 g2 r
theorem ev_gls {ns : List Str} (h : EvR ε K te σ W ns) : EvR ε K te σ W (ns.map PyData.str) := fun W1 g1 Q k => h W1 g1 Q fun v W2 g2 r => k v W2 g2 (rep_dList r)
theorem ev_gts {ns : List Str} (h : EvR ε K te σ W (Tup.mk ns)) : EvR ε K te σ W (Tup.mk (ns.map PyData.str)) := fun W1 g1 Q k => h W1 g1 Q fun v W2 g2 r => k v W2 g2 (rep_dTup r)
/-- {x: 1} -/
theorem ev_disp1 {tk : TE} {x : Str} {j : Int} (hx : ∀ W1, Stp ε W W1 → EvR ε K tk σ W1 x) (hnew : ∀ (W1 : Wd) p, Stp ε W W1 → W1.H p = none → ∀ Q : VK, Q (.str x) (upd W1.H p (.dK [])) → tk σ (upd W1.H p (.dK [])) Q) : EvR ε K (tDisp ((tk, (tC (.int j))) :: [])) σ W (PyData.dict [(.str x, .int j)]) := fun W1 g1 Q k p hp => by
  refine hnew W1 p g1 hp _ ?_
  refine ⟨upd_same, [(.inr x, .int j)], rfl, by show 1 ≤ 15; decide, ?_⟩
  rw [show upd (upd W1.H p (.dK [])) p (.dK (mergeK [] [(.inr x, .int j)])) = upd W1.H p (.dK [(.inr x, .int j)]) from by rw [upd_upd]; rfl]
  exact k _ (W1.add p (.dK [(.inr x, .int j)])) (g1.rf.and (W1.grow_add hp)) (DpD.dc (kv := [(.inr x, j)]) (.inl upd_same))
end
def sp__law_is_letter (K : Fg) : Sp := fun vs H Q _ => ∃ (W : Wd) (v : V) (b : Bool), W.H = H ∧ vs = [v] ∧ LetK K v b W ∧ ∀ W', Grow W W' → Q (.bl b) W'.H
theorem len__law_is_letter {K : Fg} {vs : List V} {H : Hp} {Q : VK} {E : XK} (h : sp__law_is_letter K vs H Q E) : vs.length = ["_law_matter"].length := by
  obtain ⟨W, v, b, _, rfl, _⟩ := h
  rfl
/-- _law_is_letter: the slots 0 _law_matter, 1 _law_sign -/
abbrev n__law_is_letter : List Str := ["_law_matter", "_law_sign"]
def t__law_is_letter (K : Fg) : TS := (tSeq (tIfS (tOr (tNot (tB (tCB (rIsi K) (tCons (tVar 0) (tCons (tC (.ty "str")) tNil))))) (tNot (tTest (tChain oLt oLt (tC (.int 0)) (tCB rLenS (tCons (tVar 0) tNil)) (tC (.int 7)))))) (tRet (tC (.bl false))) tNext)
  (tRet (tOp (rEqT K false) (tLc (iStr (tVar 0)) (gName 1) (tTest (tOp rNotInS (tVar 1) (tC (.str "abcdefghijklmnopqrstuvwxyz")))) (tVar 1) [1]) (tLst tNil))))
def sp__law_odd (K : Fg) : Sp := fun vs H Q _ => ∃ (W : Wd) (p c : Addr) (w : Str), W.H = H ∧ vs = [.ref p, .str w] ∧ St W p c ∧ IsWord w ∧
  ∀ v (d : PyData) W', Md [p, c] W W' → St W' p c → rep K W'.B v d → OddOk d → Q v W'.H
theorem len__law_odd {K : Fg} {vs : List V} {H : Hp} {Q : VK} {E : XK} (h : sp__law_odd K vs H Q E) : vs.length = ["_law_state", "_law_word"].length := by
  obtain ⟨W, p, c, w, _, rfl, _⟩ := h
  rfl
/-- _law_odd: the slots 0 _law_state, 1 _law_word, 2 _law_some -/
abbrev n__law_odd : List Str := ["_law_state", "_law_word", "_law_some"]
def t__law_odd (K : Fg) : TS := (tSeq (tAsg (tLst (tCons (tC (.str "")) (tCons (tOp oCatS (tVar 1) (tC (.str "a"))) (tCons (tSl rSlS (tVar 1) (tPart (tC (.int 1))) tNoPart) (tCons (tM0 rUpper (tVar 1)) (tCons (tOp oCatS (tVar 1) (tC (.str "1"))) (tCons (tOp rMulS (tVar 1) (tC (.int 7))) (tCons (tOp oCatS (tC (.str " ")) (tVar 1)) (tCons (tC .non) (tCons (tC (.int 5)) (tCons (tC (.bl true)) (tCons (tTup (tCons (tVar 1) tNil)) (tCons (tLst (tCons (tVar 1) tNil)) tNil))))))))))))) (gName 2))
  (tRet (tCall (sp__law_pick K) [] E0 (tCons (tVar 0) (tCons (tOp rCat (tVar 2) (tLst (tCons (tOp oCatS (tSl rSlS (tVar 1) tNoPart (tPart (tC (.int 5)))) (tC (.str "-"))) (tCons tDNewK (tCons (tStrStep (tVar 1) none none (-1)) (tCons (tC (.str "a b")) (tCons (tC (.str "abcdef")) (tCons (tC (.str "abcdefg")) tNil)))))))) tNil)))))
def sp__law_bent (K : Fg) : Sp := fun vs H Q _ => ∃ (W : Wd) (p c : Addr) (v : V) (words : List Str), W.H = H ∧ vs = [.ref p, v] ∧ St W p c ∧ rep K W.B v words ∧ 1 ≤ words.length ∧ words.length ≤ 13 ∧ (∀ w ∈ words, IsWord w) ∧
  ∀ u (g : GV) W', Md [p, c] W W' → St W' p c → rep K W'.B u g → GOk g → TxOk g.d → Q u W'.H
theorem len__law_bent {K : Fg} {vs : List V} {H : Hp} {Q : VK} {E : XK} (h : sp__law_bent K vs H Q E) : vs.length = ["_law_state", "_law_words"].length := by
  obtain ⟨W, p, c, v, words, _, rfl, _⟩ := h
  rfl
/-- _law_bent: the slots 0 _law_state, 1 _law_words, 2 _law_way, 3 _law_at -/
abbrev n__law_bent : List Str := ["_law_state", "_law_words", "_law_way", "_law_at"]
def t__law_bent (K : Fg) : TS := (tSeq (tPar 2 3 (tCons (tCall (sp__law_draw K) [] E0 (tCons (tVar 0) (tCons (tC (.int 8)) tNil))) (tCons (tCall (sp__law_draw K) [] E0 (tCons (tVar 0) (tCons (tCB (rLen K) (tCons (tVar 1) tNil)) tNil))) tNil)))
  (tSeq (tIfS (tTest (tOp rEq (tVar 2) (tC (.int 0)))) (tRet (tOp rCat (tVar 1) (tSl (rSlL K) (tVar 1) (tPart (tVar 3)) (tPart (tOp oAdd (tVar 3) (tC (.int 1))))))) tNext)
  (tSeq (tIfS (tTest (tOp oLt (tVar 2) (tC (.int 3)))) (tRet (tOp rCat (tOp rCat (tSl (rSlL K) (tVar 1) tNoPart (tPart (tVar 3))) (tLst (tCons (tCall (sp__law_odd K) [] E0 (tCons (tVar 0) (tCons (tOp (rIxL K) (tVar 1) (tVar 3)) tNil))) tNil))) (tSl (rSlL K) (tVar 1) (tPart (tOp oAdd (tVar 3) (tC (.int 1)))) tNoPart))) tNext)
  (tSeq (tIfS (tTest (tOp rEq (tVar 2) (tC (.int 3)))) (tRet (tCall (sp__law_pick K) [] E0 (tCons (tVar 0) (tCons (tLst (tCons (tC .non) (tCons tDNewK (tCons (tLst tNil) (tCons (tTup tNil) (tCons (tOp (rIxL K) (tVar 1) (tC (.int 0))) (tCons (tC (.int 5)) (tCons (tC (.bl true)) (tCons (tDisp (((tOp (rIxL K) (tVar 1) (tC (.int 0))), (tC (.int 1))) :: [])) (tCons (tLst (tCons (tVar 1) tNil)) (tCons (tLst (tCons (tC .non) tNil)) (tCons (tLst (tCons (tC (.str "a")) (tCons (tLst (tCons (tC (.str "b")) tNil)) tNil))) tNil)))))))))))) tNil)))) tNext)
  (tRet (tIf (tTest (tOp rEq (tVar 2) (tC (.int 4)))) (tCB (rTupleO K) (tCons (tVar 1) tNil)) (tVar 1)))))))
def sp__law_are_letters (K : Fg) : Sp := fun vs H Q _ => ∃ (W : Wd) (v : V) (g : GV), W.H = H ∧ vs = [v] ∧ rep K W.B v g ∧ GOk g ∧ ∀ W', Grow W W' → Q (.bl g.are) W'.H
theorem len__law_are_letters {K : Fg} {vs : List V} {H : Hp} {Q : VK} {E : XK} (h : sp__law_are_letters K vs H Q E) : vs.length = ["_law_matter"].length := by
  obtain ⟨W, v, g, _, rfl, _⟩ := h
  rfl
/-- _law_are_letters: the slots 0 _law_matter, 1 _law_word, 2 _law_at -/
abbrev n__law_are_letters : List Str := ["_law_matter", "_law_word", "_law_at"]
def t__law_are_letters (K : Fg) : TS := (tSeq (tIfS (tOr (tNot (tB (tCB (rIsiT K) (tCons (tVar 0) (tCons (tTup (tCons (tC (.ty "list")) (tCons (tC (.ty "tuple")) tNil))) tNil))))) (tNot (tTest (tChain oLt oLt (tC (.int 0)) (tCB (rLen K) (tCons (tVar 0) tNil)) (tC (.int 13)))))) (tRet (tC (.bl false))) tNext)
  (tSeq (tIfS (tTest (tOp (rNeW K) (tLc (BY.iSeq K (tVar 0)) (gName 1) (tNot (tB (tCall (sp__law_is_letter K) [] E0 (tCons (tVar 1) tNil)))) (tVar 1) [1]) (tLst tNil))) (tRet (tC (.bl false))) tNext)
  (tRet (tOp (rEqT K false) (tLc (iRng1 (tCons (tCB (rLen K) (tCons (tVar 0) tNil)) tNil)) (gName 2) (tTest (tOp (rInTQ K) (tOp (rIx K) (tVar 0) (tVar 2)) (tSl (rSlQ K) (tVar 0) tNoPart (tPart (tVar 2))))) (tVar 2) [2]) (tLst tNil)))))
theorem filt_nil {α : Type} [DecidableEq α] {p : α → Bool} : ∀ (l : List α), decide ((l.filter fun x => !p x).map id = []) = l.all p
  | [] => rfl
  | x :: l => by
    rw [List.filter_cons, List.all_cons]
    cases h : p x
    · rfl
    · simp only [Bool.not_true, Bool.false_eq_true, if_false, Bool.true_and]
      exact filt_nil l
theorem filt_emp {α : Type} {p : α → Bool} : ∀ (l : List α), ((l.filter fun x => !p x).map id).isEmpty = l.all p
  | [] => rfl
  | x :: l => by
    rw [List.filter_cons, List.all_cons]
    cases h : p x
    · rfl
    · simp only [Bool.not_true, Bool.false_eq_true, if_false, Bool.true_and]
      exact filt_emp l
section
variable {K : Fg} {W : Wd} {σ : SS} {ta : TE}
theorem ev_neE {xs : List PyData} (h : EvR pur K ta σ W xs) : EvR pur K (tOp (rNeW K) ta (tLst tNil)) σ W (!xs.isEmpty) := fun W1 g1 Q k => h W1 g1 _ fun v W2 g2 r => ⟨Evl.sz_of (by show 0 ≤ 100000; decide), fun p hp => by
  obtain ⟨a, us, e, s, rr⟩ := rep_h r
  have pa : a ≠ p := fun z => by rw [← z, s] at hp; cases hp
  have g3 : Grow W2 (W2.add p (.lst [])) := W2.grow_add hp
  have ha : SqL K (upd W2.H p (.lst [])) a us := SqL.of (by rw [upd_ne pa]; exact s)
  have hl := Reps.len rr
  cases xs with
  | nil =>
    have e0 : us = [] := List.eq_nil_of_length_eq_zero (by simpa using hl)
    subst e0
    exact .inr (.inl ⟨1, a, p, [], [], true, by decide, e, rfl, ha, SqL.of upd_same, rfl, k _ (W2.add p (.lst [])) (g2.and g3) rfl⟩)
  | cons x xs =>
    exact .inr (.inr ⟨a, p, us, [], e, rfl, ha, SqL.of upd_same, by rw [hl]; simp, k _ (W2.add p (.lst [])) (g2.and g3) rfl⟩)⟩
end
section
variable {K : Fg} {vs : List V} {H : Hp} {Q : VK} {E : XK}
theorem rd__law_is_letter (h : sp__law_is_letter K vs H Q E) : t__law_is_letter K { nx := fun _ H' => Q .non H', rt := Q } (start n__law_is_letter vs) H := by
  obtain ⟨W, v, b, rfl, rfl, hk, k⟩ := h
  have e : ∀ {i : Str} {W : Wd}, rep K W.B (V.str i) i := rfl
  rcases hk with ⟨s, rfl, hl, rfl⟩ | ⟨a, ht, hk, _, rfl⟩
  rotate_left
  · have isE : EvR pur K (tCB (rIsi K) (tCons (tVar 0) (tCons (tC (.ty "str")) tNil))) [some v, none] W false := fun W1 g1 Q k => ⟨_, rfl, v, .ty "str", .type a, .type "str", false, rfl, .ty "str", ht W1 g1.pure, kit_ty hk, k _ W1 g1.rf rfl⟩
    exact q_when (ε := pur) (b := true) ((et_or (a := true) (b := false) ((et_not (et_B isE)).is rfl) fun z => by cases z).is rfl) trivial (fun _ W1 g1 => k W1 g1.pure) (fun z => by cases z)
  refine q_when (ε := pur) (b := !(decide (1 ≤ s.length) && decide (s.length ≤ 6))) ((et_or (a := false) ((et_not (et_B (ev_cb2 (ev_var rfl e) ev_raw (rc_isi (b := true) ty_str (by decide +kernel))))).is rfl) fun _ => et_not (et_test (ev_chain ev_int (ev_cb1 (ev_var rfl e) (rc_lenS (by omega))) ev_int ro_B0 ro_B0))).is (by
    rw [Bool.false_or]
    congr 2 <;> exact decide_eq_decide.mpr (by omega))) trivial (fun z W1 g1 => ?_) fun z W1 g1 => ?_
  · have : isLB s = false := by
      unfold isLB
      rw [nb_t z]
      rfl
    rw [this] at k
    exact k W1 g1.pure
  have z := nb_f z
  refine s_ret (ε := pur) (K := K) (x := isLB s) ((ev_op (K := K) (x := ((signs s).filter fun x => !signB x).map id) (y := ([] : List Str)) (ev_lcNt (K := K) (j := 1) (p := fun x => !signB x) (f := id) (ei_str (ev_var rfl e)).i (fun x v W' hx g r => et_test (ev_op (ev_var (i := 1) rfl r) ev_str (ro_val fun v u W2 rv ru Q k => by
      unfold signs at hx
      obtain ⟨c, _, rfl⟩ := List.mem_map.mp hx
      exact ⟨c, _, rv, ru, k _ (by rw [signB_one]; rfl)⟩))) (fun x v W' hx hp g r => ev_var (i := 1) rfl r) (by unfold signs; rw [List.length_map, Array.length_toList]; have : s.length = s.cps.size := rfl; omega)) (ev_lst ea_nil (by decide)) (ro_eqT (by decide))).is ?_) trivial fun v W' g r => ?_
  · unfold isLB
    rw [z, Bool.true_and]
    exact filt_nil _
  · rw [show v = _ from r]
    exact k W' (g1.pure.trans g.pure)
theorem rd__law_odd (h : sp__law_odd K vs H Q E) : t__law_odd K { nx := fun _ H' => Q .non H', rt := Q } (start n__law_odd vs) H := by
  obtain ⟨W, p, c, w, rfl, rfl, st, hw, k⟩ := h
  have eS : ∀ {W : Wd}, rep K W.B (V.str w) w := rfl
  have hl : w.length ≤ 6 := hw.hi
  show tSeq _ _ _ [some (.ref p), some (.str w), none] W.H
  have tS : ∀ {σ : SS} {W : Wd} {ε : Ef}, σ[1]? = some (some (.str w)) → EvR ε K (tVar 1) σ W w := fun h => ev_var h eS
  have one : ∀ {x : Str} {te : TE} {σ : SS} {W : Wd} {b : Nat}, EvR (drw p c) K te σ W x → TxB b x → b ≤ 100 → EvX (drw p c) K te σ W OddOk := fun h t hb => ex_of (ev_dt (α := Str) h) (odd_str t hb)
  have tw := txb_word hw
  refine q_asgP (ε := drw p c) (W := W) (σ := [some (.ref p), some (.str w), none]) (P := fun v W' => ∃ xs : List PyData, (xs.length = 12 ∧ ∀ x ∈ xs, OddOk x) ∧ rep K W'.B v xs) (ex_lst (exa_cons (one ev_str (txb_lit (b := 0) (by decide +kernel)) (by decide)) (exa_cons (one (ev_op (tS rfl) ev_str (ro_catS (by show _ + 1 ≤ _; omega))) (tw.app (txb_lit (b := 1) (by decide +kernel))) (by decide)) (exa_cons (one (ev_slS (tS rfl) (eo_some (K := K) ev_int) eo_none (by omega)) (tw.cut _ _) (by decide))
    (exa_cons (one (ev_upper (tS rfl) (by omega)) (txb_upper hw) (by decide)) (exa_cons (one (ev_op (tS rfl) ev_str (ro_catS (by show _ + 1 ≤ _; omega))) (tw.app (txb_lit (b := 1) (by decide +kernel))) (by decide)) (exa_cons (one (ev_op (K := K) (tS rfl) ev_int (ro_mulS (mul7_ok hw))) (txb_mul7 hw) (by decide)) (exa_cons (one (ev_op ev_str (tS rfl) (ro_catS (by show 1 + _ ≤ _; omega))) ((txb_lit (b := 1) (by decide +kernel)).app tw) (by decide))
    (exa_cons (ex_of (ev_dt (α := Unit) ev_non) (odd_lit trivial (by decide +kernel))) (exa_cons (ex_of (ev_dt (α := Int) ev_int) (odd_lit trivial (by decide +kernel))) (exa_cons (ex_of (ev_dt (α := Bool) ev_bl) (odd_lit trivial (by decide +kernel))) (exa_cons (ex_of (ev_dt (α := Tup Str) (ev_tupN (ea_cons (tS rfl) ea_nil) (by show 1 ≤ 100000; decide))) (odd_tup hw)) (exa_cons (ex_of (ev_dt (α := List Str) (ev_lst (ea_cons (tS rfl) ea_nil) (by show 1 ≤ 100000; decide))) (odd_lst hw)) exa_nil)))))))))))) (by decide)) st fun v2 W2 g2 ⟨xs, ⟨xl, xo⟩, rx⟩ => ?_
  have st2 : St W2 p c := g2.i
  show tRet _ _ [some (.ref p), some (.str w), some v2] W2.H
  refine s_retP (ε := drw p c) (W := W2) (σ := [some (.ref p), some (.str w), some v2]) (ex_pick (K := K) (i := 0) (P := OddOk) (R := fun zs : List PyData => zs.length = 18 ∧ ∀ z ∈ zs, OddOk z) rfl (ex_op (K := K) (P := fun ys : List PyData => ys = xs) (R := fun ys : List PyData => ys.length = 6 ∧ ∀ z ∈ ys, OddOk z) (ex_of (ev_var (i := 2) rfl rx) rfl)
    (ex_lst (exa_cons (one (ev_op (ev_slS (tS rfl) eo_none (eo_some (K := K) ev_int) (by omega)) ev_str (ro_catS (by have := (tw.cut none (some 5)).ln; show _ + 1 ≤ _; omega))) ((tw.cut none (some 5)).app (txb_lit (b := 1) (by decide +kernel))) (by decide)) (exa_cons (ex_of (ev_dd ed_new) (odd_lit trivial (by decide +kernel))) (exa_cons (one (ev_revS (tS rfl) hw) (txb_rev hw) (by decide)) (exa_cons (one ev_str (txb_lit (b := 3) (by decide +kernel)) (by decide)) (exa_cons (one ev_str (txb_lit (b := 6) (by decide +kernel)) (by decide)) (exa_cons (one ev_str (txb_lit (b := 7) (by decide +kernel)) (by decide)) exa_nil)))))) (by decide))
    (fun ys zs e ⟨h1, h2⟩ => by
      subst e
      exact ⟨ys ++ zs, ⟨by rw [List.length_append, xl, h1], fun z hz => (List.mem_append.mp hz).elim (xo z) (h2 z)⟩, ro_cat (by rw [xl, h1]; decide)⟩)) fun zs ⟨h1, h2⟩ => ⟨fun z => (by rw [z] at h1; cases h1), by rw [h1]; decide, h2⟩) st2 fun v W3 g3 ⟨d, hd, rd⟩ => ?_
  exact k v d W3 (g2.md.trans g3.md) g3.i rd hd
end
end B
/-! k01: rows bent, looked at -/
namespace B
open PySem L2 PySem.Spec PyProof.Rows
open PySem.W (Tup T3 T4 Datum DatumOrd)
open Evl (Ex)
theorem tx_word {w : Str} (h : IsWord w) : TxOk (.str w) := by
  have := h.hi
  show w.length ≤ 1000
  omega
theorem gok_l {ns : List Str} (h : ∀ w ∈ ns, IsWord w) (hl : ns.length ≤ 1000) : GOk (.l (ns.map PyData.str)) := ⟨by show (ns.map PyData.str).length ≤ _; rw [List.length_map]; exact hl, fun d hd => by
  obtain ⟨w, hw, rfl⟩ := List.mem_map.mp (show d ∈ ns.map PyData.str from hd)
  exact tx_word (h w hw)⟩
theorem gok_t {ns : List Str} (h : ∀ w ∈ ns, IsWord w) (hl : ns.length ≤ 1000) : GOk (.t (ns.map PyData.str)) := ⟨by show (ns.map PyData.str).length ≤ _; rw [List.length_map]; exact hl, fun d hd => by
  obtain ⟨w, hw, rfl⟩ := List.mem_map.mp (show d ∈ ns.map PyData.str from hd)
  exact tx_word (h w hw)⟩
theorem cut_mem {α : Type} {xs : List α} {lo hi : Option Int} {x : α} (h : x ∈ cutL xs lo hi) : x ∈ xs := List.mem_of_mem_drop (List.mem_of_mem_take h)
theorem cut_len {α : Type} {xs : List α} {lo hi : Option Int} : (cutL xs lo hi).length ≤ xs.length := by
  unfold cutL
  rw [List.length_take, List.length_drop]
  omega
theorem cut_take {α : Type} {xs : List α} {i : Nat} (h : i ≤ xs.length) : cutL xs none (some (i : Int)) = xs.take i := by
  unfold cutL
  rw [HT.sIx_none, HT.sIx_nat, Nat.min_eq_left h]
  simp
def oddsG (ws : List Str) (w0 : Str) : List GV := [.o .none, .o (.dict []), .l [], .t [], .o (.str w0), .o (.int 5), .o (.bool true), .o (.dict [(.str w0, .int 1)]), .l [.list (ws.map PyData.str)], .l [.none], .l [.str "a", .list [.str "b"]]]
theorem odds_ok {ws : List Str} {w0 : Str} (h : IsWord w0) : ∀ g ∈ oddsG ws w0, GOk g ∧ TxOk g.d := fun g hg => by
  simp only [oddsG, List.mem_cons, List.not_mem_nil, or_false] at hg
  rcases hg with rfl | rfl | rfl | rfl | rfl | rfl | rfl | rfl | rfl | rfl | rfl
  · exact ⟨⟨by show 0 ≤ 1000; decide, fun d hd => by cases hd⟩, trivial⟩
  · exact ⟨⟨by show 0 ≤ 1000; decide, fun d hd => by cases hd⟩, trivial⟩
  · exact ⟨⟨by show 0 ≤ 1000; decide, fun d hd => by cases hd⟩, trivial⟩
  · exact ⟨⟨by show 0 ≤ 1000; decide, fun d hd => by cases hd⟩, trivial⟩
  · exact ⟨⟨by show 0 ≤ 1000; decide, fun d hd => by cases hd⟩, tx_word h⟩
  · exact ⟨⟨by show 0 ≤ 1000; decide, fun d hd => by cases hd⟩, trivial⟩
  · exact ⟨⟨by show 0 ≤ 1000; decide, fun d hd => by cases hd⟩, trivial⟩
  · exact ⟨⟨by show 0 ≤ 1000; decide, fun d hd => by cases hd⟩, trivial⟩
  · exact ⟨⟨by show 1 ≤ 1000; decide, fun d hd => by rw [List.mem_singleton.mp (show d ∈ [PyData.list (ws.map PyData.str)] from hd)]; trivial⟩, trivial⟩
  · exact ⟨⟨by show 1 ≤ 1000; decide, fun d hd => by rw [List.mem_singleton.mp (show d ∈ [PyData.none] from hd)]; trivial⟩, trivial⟩
  · refine ⟨⟨by show 2 ≤ 1000; decide, fun d hd => ?_⟩, trivial⟩
    rcases List.mem_cons.mp (show d ∈ [PyData.str "a", PyData.list [.str "b"]] from hd) with rfl | hd
    · show ("a" : Str).length ≤ 1000; decide +kernel
    · rw [List.mem_singleton.mp hd]; trivial
theorem nodup_at {ns : List Str} : ns.Nodup ↔ ∀ i (h : i < ns.length), ns[i] ∉ ns.take i := by
  rw [List.nodup_iff_pairwise_ne, List.pairwise_iff_getElem]
  constructor
  · intro h i hi hm
    obtain ⟨j, hj, e⟩ := List.mem_take_iff_getElem.mp hm
    exact h j i (by omega) hi (by omega) e
  · intro h i j hi hj hij e
    exact h j hj (List.mem_take_iff_getElem.mpr ⟨i, by omega, e⟩)
def dupAt (ns : List Str) (i : Int) : Bool := decide ((ns[i.toNat]?.getD "") ∈ ns.take i.toNat)
theorem dup_nil {ns : List Str} : decide (((rng 0 ns.length).filter (dupAt ns)).map id = []) = decide ns.Nodup := by
  refine decide_eq_decide.mpr ?_
  rw [List.map_id, List.filter_eq_nil_iff, nodup_at]
  constructor
  · intro h i hi hm
    have := h (i : Int) (rng_mem.mpr ⟨by omega, by omega⟩)
    refine this ?_
    unfold dupAt
    rw [Int.toNat_natCast, List.getElem?_eq_getElem hi]
    exact decide_eq_true hm
  · intro h i hi
    obtain ⟨h1, h2⟩ := rng_mem.mp hi
    obtain ⟨k, rfl⟩ : ∃ k : Nat, i = k := ⟨i.toNat, by omega⟩
    have hk : k < ns.length := by omega
    unfold dupAt
    rw [Int.toNat_natCast, List.getElem?_eq_getElem hk]
    show ¬ decide (ns[k] ∈ ns.take k) = true
    rw [decide_eq_false (h k hk)]
    exact Bool.false_ne_true
section
variable {K : Fg} {W : Wd} {σ : SS} {ε : Ef} {te ta : TE}
theorem ev_slQL {tl th : TO} {xs : List Str} {lo hi : Option Int} (h : EvR ε K te σ W xs) (h1 : EvO ε tl σ W lo) (h2 : EvO ε th σ W hi) : EvR ε K (tSl (rSlQ K) te tl th) σ W (cutL xs lo hi) := fun W1 g1 Q k =>
  h W1 g1 _ fun v W2 g2 rx => h1 W2 (g1.trans g2) _ fun W3 g3 => h2 W3 ((g1.trans g2).trans g3) _ fun W4 g4 => by
    obtain ⟨a, vs, e, s, r⟩ := rep_s g4 (rep_s g3 rx)
    refine .inl ⟨a, vs, e, SqL.of (W4.sub.el s), fun p hp => k _ (W4.add p _) (((g2.trans g3).trans g4).and (W4.grow_add hp)) ⟨p, _, rfl, upd_same, Reps.mono (exExt (W4.grow_add hp).b) ?_⟩⟩
    unfold cutV cutL
    rw [Reps.len r]
    exact Reps.take _ (Reps.drop _ r)
theorem ev_slQT {tl th : TO} {xs : Tup Str} {lo hi : Option Int} (h : EvR ε K te σ W xs) (h1 : EvO ε tl σ W lo) (h2 : EvO ε th σ W hi) : EvR ε K (tSl (rSlQ K) te tl th) σ W (Tup.mk (cutL xs.items lo hi)) := fun W1 g1 Q k =>
  h W1 g1 _ fun v W2 g2 rx => h1 W2 (g1.trans g2) _ fun W3 g3 => h2 W3 ((g1.trans g2).trans g3) _ fun W4 g4 => by
    obtain ⟨a, vs, e, s, r⟩ := rep_s g4 (rep_s g3 rx)
    have hl := Reps.len r
    refine .inr ⟨a, vs, e, SqT.of (W4.sub.et s), fun ⟨z1, z2⟩ => ?_, fun _ p hp => k _ (W4.add p _) (((g2.trans g3).trans g4).and (W4.grow_add hp)) ⟨p, _, rfl, upd_same, Reps.mono (exExt (W4.grow_add hp).b) ?_⟩⟩
    · refine k (.ref a) W4 ((g2.trans g3).trans g4) ⟨a, vs, rfl, s, ?_⟩
      rw [hl] at z1 z2
      show Reps K W4.B vs (cutL xs.items lo hi)
      unfold cutL
      rw [z1, z2, List.drop_zero, Nat.sub_zero, List.take_length]
      exact r
    · show Reps K W4.B _ (cutL xs.items lo hi)
      unfold cutV cutL
      rw [hl]
      exact Reps.take _ (Reps.drop _ r)
theorem et_dup {v : V} {ns : List Str} {i j : Nat} {u : V} {n : Int} (hi : σ[i]? = some (some v)) (hj : σ[j]? = some (some u)) (h : RowS K W.B v ns) (ru : rep K W.B u n) (h0 : 0 ≤ n) (h1 : n < ns.length) :
    EvT ε (tTest (tOp (rInTQ K) (tOp (rIx K) (tVar i) (tVar j)) (tSl (rSlQ K) (tVar i) tNoPart (tPart (tVar j))))) σ W (dupAt ns n) := by
  obtain ⟨k, rfl⟩ : ∃ k : Nat, n = k := ⟨n.toNat, by omega⟩
  have hk : k < ns.length := by omega
  have hg : ns[k]? = some ns[k] := List.getElem?_eq_getElem hk
  have e : dupAt ns (k : Int) = decide (ns[k] ∈ cutL ns none (some (k : Int))) := by
    unfold dupAt
    rw [Int.toNat_natCast, hg, cut_take (by omega)]
    rfl
  rw [e]
  rcases h with h | h
  · exact et_test (ev_op (K := K) (ev_op (K := K) (x := ns) (z := ns[k]) (ev_var hi h) (ev_var hj ru) fun v u W rv ru Q k => .inl (ro_ixL (atI_nat hg) v u W rv ru Q k)) (ev_slQL (ev_var hi h) eo_none (eo_some (K := K) (ev_var hj ru))) fun v u W rv ru Q k => .inl (ro_inL (by decide) v u W rv ru Q k))
  · exact et_test (ev_op (K := K) (ev_op (K := K) (x := Tup.mk ns) (z := ns[k]) (ev_var hi h) (ev_var hj ru) fun v u W rv ru Q k => .inr (.inl (ro_ixT (atI_nat hg) v u W rv ru Q k))) (ev_slQT (ev_var hi h) eo_none (eo_some (K := K) (ev_var hj ru))) fun v u W rv ru Q k => .inr (ro_inT (by decide) v u W rv ru Q k))
end
section
variable {K : Fg} {vs : List V} {H : Hp} {Q : VK} {E : XK}
theorem rd__law_are_letters (h : sp__law_are_letters K vs H Q E) : t__law_are_letters K { nx := fun _ H' => Q .non H', rt := Q } (start n__law_are_letters vs) H := by
  obtain ⟨W, v, g, rfl, rfl, rv, ok, k⟩ := h
  have t1 : EvT pur (tOr (tNot (tB (tCB (rIsiT K) (tCons (tVar 0) (tCons (tTup (tCons (tC (.ty "list")) (tCons (tC (.ty "tuple")) tNil))) tNil))))) (tNot (tTest (tChain oLt oLt (tC (.int 0)) (tCB (rLen K) (tCons (tVar 0) tNil)) (tC (.int 13)))))) [some v, none, none] W (!(g.row && (decide (1 ≤ g.items.length) && decide (g.items.length ≤ 12)))) := by
    refine (et_or (a := !g.row) (b := !(decide (1 ≤ g.items.length) && decide (g.items.length ≤ 12))) (et_not (et_B (ev_isG (v := v) (ev_var (i := 0) rfl rv)))) fun z => (et_not (et_test (ev_chain ev_int (ev_lenG (ev_var (i := 0) rfl rv) (nb_f z)) ev_int ro_B0 ro_B0))).is ?_).is (Bool.not_and _ _).symm
    congr 2 <;> exact decide_eq_decide.mpr (by omega)
  refine q_when (ε := pur) t1 trivial (fun z W1 g1 => ?_) fun z W1 g1 => ?_
  · have ha : g.are = false := by
      unfold GV.are
      rw [← Bool.and_assoc, nb_t z, Bool.false_and]
    rw [ha] at k
    exact k W1 g1.pure
  have z := nb_f z
  have hr : g.row = true := (Bool.and_eq_true _ _ ▸ z : _ ∧ _).1
  have rv1 := rep_s g1 rv
  have t2 : EvT pur (tTest (tOp (rNeW K) (tLc (BY.iSeq K (tVar 0)) (gName 1) (tNot (tB (tCall (sp__law_is_letter K) [] E0 (tCons (tVar 1) tNil)))) (tVar 1) [1]) (tLst tNil))) [some v, none, none] W1 (!g.items.all letB) := by
    refine et_test ((ev_neE (ev_lcNt (xs := g.items) (p := fun d => !letB d) (f := id) (EvJ.i (ei_gv (ev_var (i := 0) rfl rv1) hr)) (fun d u W' hd g' r => et_not (et_B (EvP.toR (ev_callP1 (P := fun v W => LetK K v (letB d) W) (R := fun v W => rep K W.B v (letB d)) (ep_var (i := 1) rfl (letk_d r (ok.tx d hd)) fun W2 g2 => (letk_d r (ok.tx d hd)).gr g2.pure) fun v W1 g e Q k => ⟨W1, v, letB d, rfl, rfl, e, fun W' g' => k _ W' (.of g') rfl⟩)))) (fun d u W' _ _ g' r => ev_var (x := d) (i := 1) rfl r) (by have := ok.ln; omega))).is ?_)
    rw [filt_emp]
  refine q_when (ε := pur) t2 trivial (fun z2 W2 g2 => ?_) fun z2 W2 g2 => ?_
  · have ha : g.are = false := by
      unfold GV.are
      rw [nb_t z2, Bool.false_and, Bool.and_false, Bool.and_false]
    rw [ha] at k
    exact k W2 (g1.trans g2).pure
  have z2 := nb_f z2
  have rs : RowS K W2.B v (g.items.map strOf) := gv_row (rep_s g2 rv1) hr (lets_str z2)
  have le : g.items.length = (g.items.map strOf).length := (List.length_map _).symm
  refine s_ret (ε := pur) (K := K) (x := g.are) ((ev_op (K := K) (x := ((rng 0 (g.items.map strOf).length).filter (dupAt (g.items.map strOf))).map id) (y := ([] : List Int)) (ev_lcNt (K := K) (j := 2) (p := dupAt (g.items.map strOf)) (f := id) (EvJ.i (ei_rng1 (n := ((g.items.map strOf).length : Int)) (ev_lenS2 (i := 0) rfl rs) (by have := ok.ln; omega) (by omega))) (fun n u W' hn g' r => by
      obtain ⟨h1, h2⟩ := rng_mem.mp hn
      exact et_dup (i := 0) (j := 2) rfl rfl (rs.mono (exExt g'.md.b)) r h1 (by omega)) (fun n u W' _ _ g' r => ev_var (i := 2) rfl r) (by rw [rng_len]; have := ok.ln; omega)) (ev_lst ea_nil (by decide)) (ro_eqT (by decide))).is ?_) trivial fun u W' g' r => ?_
  · rw [dup_nil]
    unfold GV.are
    rw [← Bool.and_assoc, z, z2]
    rfl
  · rw [show u = _ from r]
    exact k W' ((g1.trans g2).trans g').pure
theorem rd__law_bent (h : sp__law_bent K vs H Q E) : t__law_bent K { nx := fun _ H' => Q .non H', rt := Q } (start n__law_bent vs) H := by
  obtain ⟨W, p, c, v, ws, rfl, rfl, st, rv, l1, l13, hw, k⟩ := h
  show tSeq _ _ _ [some (.ref p), some v, none, none] W.H
  refine q_par (ε := drw p c) (W := W) (σ := [some (.ref p), some v, none, none]) (P := fun v _ => ∃ r, v = .int r ∧ 0 ≤ r ∧ r < 8) (R := fun v _ => ∃ r, v = .int r ∧ 0 ≤ r ∧ r < (ws.length : Int)) (ev_draw (K := K) (i := 0) rfl (ev_int (n := 8)) (by decide) (by decide)) (ev_draw (K := K) (i := 0) rfl (ev_cb1 (ev_var (i := 1) rfl rv) rc_len) (by omega) (by omega)) st (fun _ _ _ _ h => h) fun v2 v3 W1 g1 ⟨r, e2, r0, r8⟩ ⟨q, e3, q0, q1⟩ => ?_
  subst e2 e3
  have s1 : St W1 p c := g1.i
  have rv1 := rep_s g1 rv
  obtain ⟨j, rfl⟩ : ∃ j : Nat, q = j := ⟨q.toNat, by omega⟩
  have hj : j < ws.length := by omega
  let S : SS := [some (.ref p), some v, some (.int r), some (.int (j : Int))]
  have eI : ∀ {i : Int} {W : Wd}, rep K W.B (V.int i) i := rfl
  show tSeq _ _ _ S W1.H
  refine q_when (ε := drw p c) (W := W1) (σ := S) (b := decide (r = 0)) (et_test (ev_op (K := K) (ev_var (i := 2) rfl eI) ev_int ro_eqI)) s1 (fun _ W2 g2 => ?_) fun _ W2 g2 => ?_
  · have rv2 := rep_s g2 rv1
    refine s_ret (ε := drw p c) (K := K) (W := W2) (σ := S) (ev_gvl (ev_gls (ev_op (K := K) (ev_var (i := 1) rfl rv2) (ev_slL (lo := some (j : Int)) (hi := some ((j : Int) + 1)) (ev_var (i := 1) rfl rv2) (eo_some (K := K) (ev_var (i := 3) rfl eI)) (eo_some (K := K) (ev_op (K := K) (ev_var (i := 3) rfl eI) ev_int ro_I0))) (ro_cat (by have := @cut_len _ ws (some (j : Int)) (some ((j : Int) + 1)); omega))))) g2.i fun u W3 g3 ru => ?_
    refine k u _ W3 ((g1.md.trans g2.md).trans g3.md) g3.i ru (gok_l (fun w h => ?_) ?_) trivial
    · rcases List.mem_append.mp h with h | h
      · exact hw w h
      · exact hw w (cut_mem h)
    · rw [List.length_append]
      have := @cut_len _ ws (some (j : Int)) (some ((j : Int) + 1))
      omega
  have s2 : St W2 p c := g2.i
  have rv2 := rep_s g2 rv1
  show tSeq _ _ _ S W2.H
  refine q_when (ε := drw p c) (W := W2) (σ := S) (b := decide (r < 3)) (et_test (ev_op (K := K) (ev_var (i := 2) rfl eI) ev_int ro_B0)) s2 (fun _ W3 g3 => ?_) fun _ W3 g3 => ?_
  · have rv3 := rep_s g3 rv2
    have w0 : IsWord ws[j] := hw _ (List.getElem_mem hj)
    have part : ∀ (lo hi : Option Int) {tl th : TO}, EvO (drw p c) tl S W3 lo → EvO (drw p c) th S W3 hi → EvX (drw p c) K (tSl (rSlL K) (tVar 1) tl th) S W3 (fun ds : List PyData => ds.length ≤ 13 ∧ ∀ d ∈ ds, TxOk d) := fun lo hi {tl th} h1 h2 =>
      ex_of (ev_gls (ev_slL (ev_var (i := 1) rfl rv3) h1 h2)) ⟨by rw [List.length_map]; exact Nat.le_trans cut_len l13, fun d hd => by
        obtain ⟨w, hw', rfl⟩ := List.mem_map.mp hd
        exact tx_word (hw w (cut_mem hw'))⟩
    have odd : EvX (drw p c) K (tCall (sp__law_odd K) [] E0 (tCons (tVar 0) (tCons (tOp (rIxL K) (tVar 1) (tVar 3)) tNil))) S W3 OddOk := fun W4 g4 Q k =>
      ⟨_, rfl, (ev_op (K := K) (x := ws) (z := ws[j]) (ev_var (i := 1) rfl rv3) (ev_var (i := 3) rfl eI) (ro_ixL (atI_nat (List.getElem?_eq_getElem hj)))) W4 g4 _ fun u W5 g5 ru => ⟨W5, p, c, ws[j], rfl, by rw [show u = V.str ws[j] from ru]; rfl, g5.i, w0, fun v d W6 m s r o => k v W6 (g5.trans ⟨m, s⟩) ⟨d, o, r⟩⟩⟩
    refine s_retP (ε := drw p c) (W := W3) (σ := S) (ex_op (K := K) (R := fun ds : List PyData => ds.length ≤ 13 ∧ ∀ d ∈ ds, TxOk d) (S := fun ds : List PyData => ds.length ≤ 27 ∧ ∀ d ∈ ds, TxOk d) (ex_op (K := K) (P := fun ds : List PyData => ds.length ≤ 13 ∧ ∀ d ∈ ds, TxOk d) (R := fun ds : List PyData => ds.length = 1 ∧ ∀ d ∈ ds, OddOk d) (S := fun ds : List PyData => ds.length ≤ 14 ∧ ∀ d ∈ ds, TxOk d) (part none (some (j : Int)) eo_none (eo_some (K := K) (ev_var (i := 3) rfl eI))) (ex_lst (exa_cons odd exa_nil) (by decide)) (fun xs ys ⟨h1, h2⟩ ⟨h3, h4⟩ => ⟨xs ++ ys, ⟨by rw [List.length_append]; omega, fun d hd => (List.mem_append.mp hd).elim (h2 d) fun h => (h4 d h).tx⟩, ro_cat (by omega)⟩))
      (part (some ((j : Int) + 1)) none (eo_some (K := K) (ev_op (K := K) (ev_var (i := 3) rfl eI) ev_int ro_I0)) eo_none) (fun xs ys ⟨h1, h2⟩ ⟨h3, h4⟩ => ⟨xs ++ ys, ⟨by rw [List.length_append]; omega, fun d hd => (List.mem_append.mp hd).elim (h2 d) (h4 d)⟩, ro_cat (by omega)⟩)) g3.i fun u W4 g4 ⟨ds, ⟨d1, d2⟩, ru⟩ => ?_
    exact k u (.l ds) W4 (((g1.md.trans g2.md).trans g3.md).trans g4.md) g4.i ru ⟨(by show ds.length ≤ 1000; omega), d2⟩ trivial
  have s3 : St W3 p c := g3.i
  have rv3 := rep_s g3 rv2
  have h0 : 0 < ws.length := by omega
  have w0 : IsWord ws[0] := hw _ (List.getElem_mem h0)
  show tSeq _ _ _ S W3.H
  refine q_when (ε := drw p c) (W := W3) (σ := S) (b := decide (r = 3)) (et_test (ev_op (K := K) (ev_var (i := 2) rfl eI) ev_int ro_eqI)) s3 (fun _ W4 g4 => ?_) fun _ W4 g4 => ?_
  · have rv4 := rep_s g4 rv3
    have fst : EvR (drw p c) K (tOp (rIxL K) (tVar 1) (tC (.int 0))) S W4 ws[0] := ev_op (K := K) (x := ws) (ev_var (i := 1) rfl rv4) ev_int (ro_ixL (atI_nat (j := 0) (List.getElem?_eq_getElem h0)))
    have one : ∀ {te : TE} {d : PyData}, EvR (drw p c) K te S W4 d → kitB (dcls d) "list" = some false → kitB (dcls d) "tuple" = some false → EvR (drw p c) K te S W4 (GV.o d) := ev_gvo
    have lst : EvR (drw p c) K (tLst (tCons (tC .non) (tCons tDNewK (tCons (tLst tNil) (tCons (tTup tNil) (tCons (tOp (rIxL K) (tVar 1) (tC (.int 0))) (tCons (tC (.int 5)) (tCons (tC (.bl true)) (tCons (tDisp (((tOp (rIxL K) (tVar 1) (tC (.int 0))), (tC (.int 1))) :: [])) (tCons (tLst (tCons (tVar 1) tNil)) (tCons (tLst (tCons (tC .non) tNil)) (tCons (tLst (tCons (tC (.str "a")) (tCons (tLst (tCons (tC (.str "b")) tNil)) tNil))) tNil)))))))))))) S W4 (oddsG ws ws[0]) := by
      refine ev_lst (ea_cons (ev_gvo (ev_dt (α := Unit) ev_non) (by decide +kernel) (by decide +kernel)) (ea_cons (ev_gvo (ev_dd ed_new) (by decide +kernel) (by decide +kernel)) (ea_cons (ev_gvl (ev_lst ea_nil (by decide))) (ea_cons (ev_gvt (ev_tupN ea_nil (by decide))) (ea_cons (ev_gvo (ev_dt (α := Str) fst) (by show kitB "str" "list" = _; decide +kernel) (by show kitB "str" "tuple" = _; decide +kernel)) (ea_cons (ev_gvo (ev_dt (α := Int) ev_int) (by decide +kernel) (by decide +kernel)) (ea_cons (ev_gvo (ev_dt (α := Bool) ev_bl) (by decide +kernel) (by decide +kernel))
        (ea_cons (ev_gvo (ev_disp1 (x := ws[0]) (fun W5 g5 => fst.s g5) fun W5 q5 g5 hq Q kk => ?_) (by show kitB "dict" "list" = _; decide +kernel) (by show kitB "dict" "tuple" = _; decide +kernel)) (ea_cons (ev_gvl (ev_lst (ea_cons (ev_dt (α := List Str) (ev_var (i := 1) rfl rv4)) ea_nil) (by show 1 ≤ 100000; decide))) (ea_cons (ev_gvl (ev_lst (ea_cons (ev_dt (α := Unit) ev_non) ea_nil) (by show 1 ≤ 100000; decide))) (ea_cons (ev_gvl (ev_lst (ea_cons (ev_dt (α := Str) ev_str) (ea_cons (ev_dt (α := List Str) (ev_lst (ea_cons ev_str ea_nil) (by show 1 ≤ 100000; decide))) ea_nil)) (by show 2 ≤ 100000; decide))) ea_nil))))))))))) (by show 11 ≤ 100000; decide)
      obtain ⟨a, us, e, s, r'⟩ := rep_s g5 rv4
      have ha : W5.H a = some (.lst us) := W5.sub.el s
      have ne : a ≠ q5 := fun z => by rw [z, hq] at ha; cases ha
      have hu : us[0]? = some (.str ws[0]) := by rw [reps_str r', List.getElem?_map, List.getElem?_eq_getElem h0]; rfl
      exact ⟨_, rfl, a, us, 0, _, e, rfl, SqL.of (by rw [upd_ne ne]; exact ha), atI_nat (j := 0) hu, kk⟩
    refine s_retP (ε := drw p c) (W := W4) (σ := S) (ex_pick (K := K) (i := 0) (P := fun g : GV => GOk g ∧ TxOk g.d) (R := fun zs : List GV => zs = oddsG ws ws[0]) rfl (ex_of lst rfl) fun zs e => by subst e; exact ⟨by simp [oddsG], by show 11 < 100000; decide, odds_ok w0⟩) g4.i fun u W5 g5 ⟨g, ⟨h1, h2⟩, ru⟩ => ?_
    exact k u g W5 ((((g1.md.trans g2.md).trans g3.md).trans g4.md).trans g5.md) g5.i ru h1 h2
  have rv4 := rep_s g4 rv3
  refine s_ret (ε := drw p c) (K := K) (W := W4) (σ := S) (x := if decide (r = 4) then GV.t (ws.map PyData.str) else GV.l (ws.map PyData.str)) (ev_if (et_test (ev_op (K := K) (ev_var (i := 2) rfl eI) ev_int ro_eqI)) (fun _ => ev_gvt (ev_gts (ev_cb1 (ev_var (i := 1) rfl rv4) rc_tupL))) (fun _ => ev_gvl (ev_gls (ev_var (i := 1) rfl rv4)))) g4.i fun u W5 g5 ru => ?_
  refine k u _ W5 ((((g1.md.trans g2.md).trans g3.md).trans g4.md).trans g5.md) g5.i ru ?_ ?_
  · split
    · exact gok_t hw (by omega)
    · exact gok_l hw (by omega)
  · split <;> trivial
end
end B
/-! B: fields of an error that was kept -/
namespace B
open PySem PySem.Spec PyProof.Rows L2
/-- err.f, err an error that was kept -/
def tXg (K : Fg) (C : Addr) (f : Str) (te : TE) : TE := fun σ H Q => te σ H fun x H1 => ∃ (a dd : Addr) (fs : List (Str × V)) (v : V), x = .ref a ∧ H1 a = some (BX.ExK (.ref C) (some dd) a) ∧ H1 dd = some (.xd fs) ∧ fs.lookup f = some v ∧ Q v H1
theorem pe_xg {X : Cx} {C : Addr} {e : Expr} {te : TE} {pos : Pos} {n : Str} (T : XfC X.K C) (hno : PySem.W.findIn X.K (.ref C) n = some none) (he : PE X e te) (hb : attributeBase e n X.env (eval e X.env) = eval e X.env := by rfl) : PE X (.Attribute e n pos) (tXg X.K C n te) := by
  refine ⟨fun pins s σ H Q I h => ?_⟩
  refine attr_of hb (thn (he.run pins s σ H _ I h) fun u s1 hh => ?_)
  obtain ⟨x, H1, I1, rx, a, dd, fs, v, ex, ha, ea, l, q⟩ := hh
  subst ex
  obtain rfl : u = Value.ref a := rx
  obtain ⟨oe, vs, hget, hz, hv⟩ := (I1.hok a _ ha).1
  have hx : ObjOk X.prog X.w H1 s1.heap dd (.xd fs) := I1.hok dd _ ea
  obtain ⟨mA, hns, hr⟩ := hx
  obtain ⟨od, ho, hl⟩ := lookIn_ns hns
  obtain ⟨u, hu, ru⟩ := RelO.some_of (v := v) (o := mA n) (by rw [← l]; exact hr n)
  have J : PySem.W.InstAt s1.heap a oe C (some od) := ⟨hget, hz.1, by unfold PySem.W.notCls; rw [hv] <;> rfl, by rw [hz.2]; exact ho⟩
  exact HandSPX.exc_get I1.kIn J T.ga T.gg T.exC (PySem.W.findObj_own T.hdC hno rfl (by rw [hl, hu])) (handed_of ru) ⟨v, H1, I1.tok _, ru, q⟩
end B
/-! k01: letters made, told, compared, refused -/
namespace B
open PySem L2 PySem.Spec PyProof.Rows
open PySem.W (Tup T3 T4 Datum DatumOrd)
open Evl (Ex)
def names01 : List Str := ["NoFeed", "NoLetter", "NoMany", "NoName", "NoTally", "NoText", "NoLetters"]
structure Refd (K : Fg) (x : Str) : Prop where
  e : ExcC K (cErr K x)
  v : PySem.W.kitOne K (.ref (cErr K x)) (.type "ValueError") = some true
  l : PySem.W.exmOne K (.ref (cErr K x)) (.ref (cErr K "LeftError")) = some true
  ks : ∀ n ∈ names01, PySem.W.kitOne K (.ref (cErr K x)) (.ref (cErr K n)) = some (decide (n = x))
def AllK (K : Fg) (x : Str) : List Str → Prop
  | [] => True
  | n :: l => PySem.W.kitOne K (.ref (cErr K x)) (.ref (cErr K n)) = some (decide (n = x)) ∧ AllK K x l
theorem refd_mk {K : Fg} {x : Str} : ∀ l : List Str, AllK K x l → ∀ n ∈ l, PySem.W.kitOne K (.ref (cErr K x)) (.ref (cErr K n)) = some (decide (n = x))
  | [], _, n, h => by cases h
  | m :: l, ⟨h1, h2⟩, n, h => by
    rcases List.mem_cons.mp h with e | e
    · rw [e]; exact h1
    · exact refd_mk l h2 n e
structure NotLt (K : Fg) (C : Addr) : Prop where
  k0 : PySem.W.kitOne K (.type "NoneType") (.ref C) = some false
  k1 : PySem.W.kitOne K (.type "int") (.ref C) = some false
  k2 : PySem.W.kitOne K (.type "list") (.ref C) = some false
  k3 : PySem.W.kitOne K (.type "tuple") (.ref C) = some false
  k4 : PySem.W.kitOne K (.type "str") (.ref C) = some false
structure NotLs (K : Fg) (C : Addr) : Prop where
  s0 : PySem.W.subIn K (.type "NoneType") (.ref C) = some false
  s1 : PySem.W.subIn K (.type "int") (.ref C) = some false
  s2 : PySem.W.subIn K (.type "list") (.ref C) = some false
  s3 : PySem.W.subIn K (.type "tuple") (.ref C) = some false
  s4 : PySem.W.subIn K (.type "str") (.ref C) = some false
def sp__law_rank_refused (K : Fg) (C : Addr) : Sp := fun vs H Q _ => ∃ (W : Wd) (v u : V) (names : List Str) (d : PyData), W.H = H ∧ vs = [v, u] ∧ LetAt K C names v W ∧ rep K W.B u d ∧ OddOk d ∧ hasB names u = false ∧ ∀ W', Grow W W' → Q (.bl true) W'.H
theorem len__law_rank_refused {K : Fg} {C : Addr} {vs : List V} {H : Hp} {Q : VK} {E : XK} (h : sp__law_rank_refused K C vs H Q E) : vs.length = ["_law_told", "_law_matter"].length := by
  obtain ⟨W, v, u, names, d, _, rfl, _⟩ := h
  rfl
/-- _law_rank_refused: the slots 0 _law_told, 1 _law_matter, 2 _law_caught, 3 e -/
abbrev n__law_rank_refused : List Str := ["_law_told", "_law_matter", "_law_caught", "e"]
def t__law_rank_refused (K : Fg) (c_Letters : Addr) : TS := (tSeq (tAsg (tC .non) (gName 2))
  (tSeq (BX.tTryK K (cErr K "NoLetter") 3 (fun W => (tDrop (tMethTS c_Letters "rank" (sp_Letters_rank K c_Letters) (WE W) (tVar 0) (tCons (tVar 1) tNil)))) (fun a cls d => (tAsg (tVar 3) (gName 2))))
  (tRet (tAndV (tOp oNotN (tVar 2) (tC .non)) (tAndV (tCB (BE.rIsF K) (tCons (tVar 2) (tCons (tC (.ref (cErr K "LeftError"))) tNil))) (tOp rEq (tCB (rReprV K) (tCons (tXg K (cErr K "NoLetter") "name" (tVar 2)) tNil)) (tCB (rReprV K) (tCons (tVar 1) tNil))))))))
def sp__law_told_right (K : Fg) (C : Addr) : Sp := fun vs H Q _ => ∃ (W : Wd) (p c : Addr) (v vw : V) (names : List Str), W.H = H ∧ vs = [.ref p, v, vw] ∧ St W p c ∧ LetAt K C names v W ∧ rep K W.B vw names ∧ ∀ W', Md [p, c] W W' → St W' p c → Q (.bl true) W'.H
theorem len__law_told_right {K : Fg} {C : Addr} {vs : List V} {H : Hp} {Q : VK} {E : XK} (h : sp__law_told_right K C vs H Q E) : vs.length = ["_law_state", "_law_told", "_law_words"].length := by
  obtain ⟨W, p, c, v, vw, names, _, rfl, _⟩ := h
  rfl
/-- _law_told_right: the slots 0 _law_state, 1 _law_told, 2 _law_words, 3 _law_word, 4 _law_odd_here -/
abbrev n__law_told_right : List Str := ["_law_state", "_law_told", "_law_words", "_law_word", "_law_odd_here"]
def t__law_told_right (K : Fg) (c_Letters : Addr) : TS := (tSeq (tIfS (tOr (tNot (tB (tCB (rIsi K) (tCons (tMeth c_Letters "names" (sp_Letters_names K c_Letters) [] E0 (tVar 1) tNil) (tCons (tC (.ty "list")) tNil))))) (tTest (tOp (rEqT K true) (tMeth c_Letters "names" (sp_Letters_names K c_Letters) [] E0 (tVar 1) tNil) (tCB (rSortedS K) (tCons (tVar 2) tNil))))) (tRet (tC (.bl false))) tNext)
  (tSeq (tIfS (tOr (tNot (tB (tCB (rIsi K) (tCons (tMeth c_Letters "ranked" (sp_Letters_ranked K c_Letters) [] E0 (tVar 1) tNil) (tCons (tC (.ty "list")) tNil))))) (tOr (tTest (tOp (rEqT K true) (tMeth c_Letters "ranked" (sp_Letters_ranked K c_Letters) [] E0 (tVar 1) tNil) (tVar 2))) (tTest (tOp rNe (tCB (rLenOwn c_Letters (sp_Letters___len__ K c_Letters) E0) (tCons (tVar 1) tNil)) (tCB (rLen K) (tCons (tVar 2) tNil)))))) (tRet (tC (.bl false))) tNext)
  (tSeq (tIfS (tOr (tTest (tOp (rEqT K true) (tLc (iList K (tVar 2)) (gName 3) tYes (tMeth c_Letters "rank" (sp_Letters_rank K c_Letters) [] E0 (tVar 1) (tCons (tVar 3) tNil)) [3]) (tLstRg (tRg1 (tCB (rLen K) (tCons (tVar 2) tNil)))))) (tTest (tOp rNe (tMethKw c_Letters "rank" (sp_Letters_rank K c_Letters) [0] 1 E0 (tVar 1) (tCons (tOp (rIxL K) (tVar 2) (tUn oNeg (tC (.int 1)))) tNil)) (tOp oSub (tCB (rLen K) (tCons (tVar 2) tNil)) (tC (.int 1)))))) (tRet (tC (.bl false))) tNext)
  (tSeq (tAsg (tCall (sp__law_odd K) [] E0 (tCons (tVar 0) (tCons (tCall (sp__law_pick K) [] E0 (tCons (tVar 0) (tCons (tVar 2) tNil))) tNil))) (gName 4))
  (tSeq (tIfS (tOr (tNot (tB (tCB (rIsi K) (tCons (tVar 4) (tCons (tC (.ty "str")) tNil))))) (tTest (tOp (rNinX K) (tVar 4) (tVar 2)))) (tIfS (tNot (tB (tCall (sp__law_rank_refused K c_Letters) [] E0 (tCons (tVar 1) (tCons (tVar 4) tNil))))) (tRet (tC (.bl false))) tNext) tNext)
  (tSeq (tDrop (tBM0 K "list" rClear (tMeth c_Letters "names" (sp_Letters_names K c_Letters) [] E0 (tVar 1) tNil)))
  (tSeq (tDrop (tBM K "list" rAppend (tMeth c_Letters "ranked" (sp_Letters_ranked K c_Letters) [] E0 (tVar 1) tNil) (tCons (tC (.str "zz")) tNil)))
  (tRet (tAndV (tOp (rEqT K false) (tMeth c_Letters "names" (sp_Letters_names K c_Letters) [] E0 (tVar 1) tNil) (tCB (rSortedS K) (tCons (tVar 2) tNil))) (tOp (rEqT K false) (tMeth c_Letters "ranked" (sp_Letters_ranked K c_Letters) [] E0 (tVar 1) tNil) (tVar 2)))))))))))
def sp__law_alike_right (K : Fg) (C : Addr) : Sp := fun vs H Q _ => ∃ (W : Wd) (v vw : V) (names : List Str), W.H = H ∧ vs = [v, vw] ∧ LetAt K C names v W ∧ rep K W.B vw names ∧ ∀ W', Grow W W' → Q (.bl true) W'.H
theorem len__law_alike_right {K : Fg} {C : Addr} {vs : List V} {H : Hp} {Q : VK} {E : XK} (h : sp__law_alike_right K C vs H Q E) : vs.length = ["_law_told", "_law_words"].length := by
  obtain ⟨W, v, vw, names, _, rfl, _⟩ := h
  rfl
/-- _law_alike_right: the slots 0 _law_told, 1 _law_words, 2 _law_others, 3 _law_mate, 4 _law_other -/
abbrev n__law_alike_right : List Str := ["_law_told", "_law_words", "_law_others", "_law_mate", "_law_other"]
def t__law_alike_right (K : Fg) (c_Letters : Addr) : TS := (tSeq (tFor (iList K (tLst (tCons (tVar 1) (tCons (tRevL K (tVar 1)) (tCons (tSl (rSlL K) (tVar 1) (tPart (tC (.int 1))) tNoPart) (tCons (tOp rCat (tSl (rSlL K) (tVar 1) (tPart (tC (.int 1))) tNoPart) (tSl (rSlL K) (tVar 1) tNoPart (tPart (tC (.int 1))))) tNil)))))) (gName 2)
  (tIfS (tTest (tOp (rEqT K true) (tVar 2) (tLst tNil))) (tSeq (tAsg (tMake c_Letters (sp_Letters___init__ K c_Letters) [] E0 (tCons (tCB (rTupleO K) (tCons (tVar 2) tNil)) tNil)) (gName 3))
  (tIfS (tOr (tTest (tOp rNe (tOp (rInsEq c_Letters (sp_Letters___eq__ K c_Letters) E0) (tVar 0) (tVar 3)) (tOp (rEqT K false) (tVar 2) (tVar 1)))) (tTest (tOp rEq (tOp (rInsNe c_Letters (sp_Letters___eq__ K c_Letters) E0) (tVar 0) (tVar 3)) (tOp (rEqT K false) (tVar 2) (tVar 1))))) (tRet (tC (.bl false))) tNext)) tNext))
  (tRet (tNotV (tCB (rAny K) (tCons (tLc (iList K (tLst (tCons (tC .non) (tCons (tVar 1) (tCons (tCB (rTupleO K) (tCons (tVar 1) tNil)) (tCons (tCB (rLen K) (tCons (tVar 1) tNil)) (tCons (tOp (rIxL K) (tVar 1) (tC (.int 0))) tNil))))))) (gName 4) tYes (tOp (rInsEqA K c_Letters (sp_Letters___eq__ K c_Letters) E0) (tVar 0) (tVar 4)) [4]) tNil)))))
def sp__law_made (K : Fg) (C : Addr) : Sp := fun vs H Q _ => ∃ (W : Wd) (v : V) (g : GV), W.H = H ∧ vs = [v] ∧ rep K W.B v g ∧ GOk g ∧ ∀ t x b W', Grow W W' → W'.B t = some (.tup [x, .bl b]) → (g.are = true → LetAt K C (g.items.map strOf) x W') → (g.are = false → x = .non ∧ b = true) → Q (.ref t) W'.H
theorem len__law_made {K : Fg} {C : Addr} {vs : List V} {H : Hp} {Q : VK} {E : XK} (h : sp__law_made K C vs H Q E) : vs.length = ["_law_matter"].length := by
  obtain ⟨W, v, g, _, rfl, _⟩ := h
  rfl
/-- _law_made: the slots 0 _law_matter, 1 _law_told, 2 _law_caught, 3 e, 4 _law_others -/
abbrev n__law_made : List Str := ["_law_matter", "_law_told", "_law_caught", "e", "_law_others"]
def t__law_made (K : Fg) (c_Letters : Addr) : TS := (tSeq (tAsg (tTup (tCons (tC .non) (tCons (tC .non) tNil))) (gPair K 1 2))
  (tSeq (BX.tTryK K (cErr K "LeftError") 3 (fun W => (tAsg (tMakeTS c_Letters (sp_Letters___init__ K c_Letters) (WE W) (tCons (tVar 0) tNil)) (gName 1))) (fun a cls d => (tAsg (tVar 3) (gName 2))))
  (tSeq (tAsg (tCB (rOrB (rIsKT K) (rIsiT K)) (tCons (tVar 2) (tCons (tTup (tCons (tC (.ref (cErr K "NoFeed"))) (tCons (tC (.ref (cErr K "NoLetter"))) (tCons (tC (.ref (cErr K "NoMany"))) (tCons (tC (.ref (cErr K "NoName"))) (tCons (tC (.ref (cErr K "NoTally"))) (tCons (tC (.ref (cErr K "NoText"))) tNil))))))) tNil))) (gName 4))
  (tRet (tTup (tCons (tVar 1) (tCons (tAndV (tCB (rOrB (BE.rIsF K) (rIsi K)) (tCons (tVar 2) (tCons (tC (.ref (cErr K "NoLetters"))) tNil))) (tAndV (tCB (rOrB (BE.rIsF K) (rIsi K)) (tCons (tVar 2) (tCons (tC (.ty "ValueError")) tNil))) (tNotV (tVar 4)))) tNil)))))))
theorem q_asgH {i : Nat} {te : TE} {tz : TS} {D : Ends} {σ : SS} {H : Hp} (h : te σ H fun v H1 => tz D (σ.set i (some v)) H1) : tSeq (tAsg te (gName i)) tz D σ H := h
theorem tup2G {t1 t2 : TE} {g : TG} {tz : TS} {D : Ends} {σ : SS} {H : Hp} (h : t1 σ H fun v1 H1 => t2 σ H1 fun v2 H2 => [v1, v2].length ≤ sizeLine ∧ ∀ p, H2 p = none → g (.ref p) σ (upd H2 p (.tup [v1, v2])) (tz D)) : tSeq (tAsg (tTup (tCons t1 (tCons t2 tNil))) g) tz D σ H := h
section
variable {K : Fg}
theorem ro_isNR {v : V} : RO K oIsN (Raw.mk v) (Raw.mk V.non) (decide (v = V.non)) := ro_val fun a u W1 ra ru Q k => ⟨ru, k _ (by rw [show a = v from ra]; rfl)⟩
theorem ro_notNR {v : V} : RO K oNotN (Raw.mk v) (Raw.mk V.non) (!decide (v = V.non)) := ro_val fun a u W1 ra ru Q k => ⟨ru, k _ (by rw [show a = v from ra]; rfl)⟩
theorem rc_sortedSS {xs : List Str} (h : xs.length < 64) : RC1 K (rSortedS K) xs (sortS xs) := fun v W1 ⟨a, vs, e, s, r⟩ Q k => by
  have e2 := reps_str r
  subst e2
  refine ⟨a, xs, by rw [e], SqL.of (W1.sub.el s), h, fun ys p h1 h2 hp => ?_⟩
  rw [sortS_eq h1 (sorted_pw h2)]
  exact k _ (W1.add p _) (W1.grow_add hp) ⟨p, _, rfl, upd_same, str_reps _⟩
theorem ev_lstRg1 {ε : Ef} {W : Wd} {σ : SS} {ta : TE} {b : Int} (ha : EvR ε K ta σ W b) (h : RgOk 0 b) : EvR ε K (tLstRg (tRg1 ta)) σ W (rng 0 b.toNat) := fun W1 g1 Q k =>
  ha W1 g1 _ fun v W2 g2 ra => ⟨b, ra, h, fun p hp => k _ (W2.add p _) (g2.and (W2.grow_add hp)) ⟨p, _, rfl, upd_same, by
    have : rgV 0 b = (rng 0 b.toNat).map V.int := by
      unfold rgV rng
      rw [List.map_map, Int.sub_zero]
      rfl
    rw [this]
    exact int_reps _⟩⟩
end
/-! ### ranks -/
def rankI (names : List Str) (w : Str) : Int := (klook (ranksOf names) w).getD 0
theorem rankI_of {names : List Str} {w : Str} (h : w ∈ names) : klook (ranksOf names) w = some (rankI names w) := by
  obtain ⟨i, hi⟩ := rank_of h
  unfold rankI
  rw [hi]; rfl
theorem rank_at {names : List Str} (nd : names.Nodup) {k : Nat} (h : k < names.length) : rankI names names[k] = (k : Int) := by
  have hm : (names[k], (k : Int)) ∈ ranksOf names := by
    refine List.mem_of_getElem? (i := k) ?_
    unfold ranksOf
    rw [List.getElem?_zip_eq_some]
    exact ⟨List.getElem?_eq_getElem h, by rw [rng_get h]; simp⟩
  have := klook_of_mem (kv := ranksOf names) (by rw [ranks_keys]; exact nd) hm
  unfold rankI
  rw [this]; rfl
theorem ranks_rng {names : List Str} (nd : names.Nodup) : names.map (rankI names) = rng 0 names.length := by
  refine List.ext_getElem (by rw [List.length_map, rng_len]) fun k h1 h2 => ?_
  rw [List.length_map] at h1
  rw [List.getElem_map, rank_at nd h1]
  have := rng_get (lo := 0) h1
  rw [List.getElem?_eq_getElem (by rw [rng_len]; exact h1)] at this
  have := Option.some.inj this
  rw [this]; simp
section
variable {K : Fg} {W : Wd} {σ : SS} {tl ta : TE} {C : Addr} {names : List Str}
theorem ev_rank {w : Str} (hl : EvP pur tl σ W (LetAt K C names)) (ha : EvR pur K ta σ W w) (hw : w ∈ names) (ok : IsWord w) : EvR pur K (tMeth C "rank" (sp_Letters_rank K C) [] E0 tl (tCons ta tNil)) σ W (rankI names w) :=
  ep_lmeth1 (R := fun v W => rep K W.B v (rankI names w)) (P := fun v _ => v = V.str w) hl (by decide +kernel) ha fun v u W1 g hl e Q k => ⟨W1, v, u, names, true, rfl, rfl, hl, by rw [e]; exact letk_word ok, .inl ⟨w, rankI names w, e, rankI_of hw, fun W' g' => k _ W' (.of g') rfl⟩⟩
theorem ev_rankKw {w : Str} (hl : EvP pur tl σ W (LetAt K C names)) (ha : EvR pur K ta σ W w) (hw : w ∈ names) (ok : IsWord w) : EvR pur K (tMethKw C "rank" (sp_Letters_rank K C) [0] 1 E0 tl (tCons ta tNil)) σ W (rankI names w) := fun W1 g1 Q k => hl W1 g1 _ fun v W2 g2 hl => by
  obtain ⟨l, dl, r, e, h1, h2, h3⟩ := id hl
  refine ⟨l, dl, _, e, W2.sub.ins h1, by rw [lookup_putF, if_neg (by decide +kernel)]; all_goals rfl, ?_⟩
  exact ha W2 (g1.trans g2) _ fun u W3 g3 eu => ⟨rfl, W3, v, u, names, true, rfl, rfl, hl.s g3, by rw [show u = V.str w from eu]; exact letk_word ok, .inl ⟨w, rankI names w, eu, rankI_of hw, fun W' g' => k _ W' ((g2.trans g3).and g') rfl⟩⟩
theorem ev_lenL (hl : EvP pur tl σ W (LetAt K C names)) : EvR pur K (tCB (rLenOwn C (sp_Letters___len__ K C) E0) (tCons tl tNil)) σ W (names.length : Int) := fun W1 g1 Q k => hl W1 g1 _ fun v W2 g2 hl => by
  obtain ⟨l, dl, r, e, h1, h2, h3⟩ := id hl
  subst e
  exact ⟨l, dl, _, rfl, W2.sub.ins h1, W2, .ref l, names, rfl, rfl, hl, fun W3 g3 => ⟨names.length, rfl, Evl.sz_of (by have := h3.hi; omega), k _ W3 (g2.and g3) rfl⟩⟩
/-- told names, emptied -/
theorem x_clear {Q : VK} (h : EvP pur tl σ W (LetAt K C names)) (k : ∀ W', Grow W W' → Q .non W'.H) : tBM0 K "list" rClear (tMeth C "names" (sp_Letters_names K C) [] E0 tl tNil) σ W.H Q := h W (.start trivial) _ fun v W1 g1 hl => by
  obtain ⟨l, dl, r, e, h1, h2, h3⟩ := id hl
  refine ⟨l, dl, _, e, W1.sub.ins h1, by rw [lookup_putF, if_neg (by decide +kernel)]; all_goals rfl, ?_⟩
  refine ⟨W1, v, names, rfl, rfl, hl, fun p W2 g2 f m => ?_⟩
  obtain ⟨us, e, _⟩ := m.ex
  exact ⟨.inl ⟨rfl, us, SqL.of e⟩, p, us, rfl, rfl, e, k (W2.put p _ m.b) (md_mut (g1.pure.trans g2) m.b (was_free g1.pure f))⟩
theorem x_append {Q : VK} {s : Str} (h : EvP pur tl σ W (LetAt K C names)) (k : ∀ W', Grow W W' → Q .non W'.H) : tBM K "list" rAppend (tMeth C "ranked" (sp_Letters_ranked K C) [] E0 tl tNil) (tCons (tC (.str s)) tNil) σ W.H Q := h W (.start trivial) _ fun v W1 g1 hl => by
  obtain ⟨l, dl, r, e, h1, h2, h3⟩ := id hl
  refine ⟨l, dl, _, e, W1.sub.ins h1, by rw [lookup_putF, if_neg (by decide +kernel)]; all_goals rfl, ?_⟩
  refine ⟨W1, v, names, rfl, rfl, hl, fun p W2 g2 f m => ?_⟩
  obtain ⟨us, e, rr⟩ := m.ex
  exact ⟨.inl ⟨rfl, us, SqL.of e⟩, p, us, .str s, rfl, rfl, e, Evl.sz_lt (by rw [Reps.len rr]; have := h3.hi; omega), k (W2.put p _ m.b) (md_mut (g1.pure.trans g2) m.b (was_free g1.pure f))⟩
/-- letters compared -/
theorem ev_letEq {tb : TE} {n2 : List Str} (ha : EvP pur ta σ W (LetAt K C names)) (hb : EvP pur tb σ W (LetAt K C n2)) : EvR pur K (tOp (rInsEq C (sp_Letters___eq__ K C) E0) ta tb) σ W (decide (names = n2)) := fun W1 g1 Q k => ha W1 g1 _ fun v W2 g2 h1 => hb W2 (g1.trans g2) _ fun u W3 g3 h2 => by
  have h1 := h1.s g3
  obtain ⟨l, dl, r, e, z1, z2, z3⟩ := id h1
  obtain ⟨l', dl', r', e', z1', z2', z3'⟩ := id h2
  exact ⟨l, l', dl, dl', _, _, e, e', W3.sub.ins z1, W3.sub.ins z1', W3, v, u, names, _, rfl, rfl, h1, .inl ⟨n2, h2, rfl⟩, fun W4 g4 => k _ W4 ((g2.trans g3).and g4) rfl⟩
theorem ev_letNe {tb : TE} {n2 : List Str} (ha : EvP pur ta σ W (LetAt K C names)) (hb : EvP pur tb σ W (LetAt K C n2)) : EvR pur K (tOp (rInsNe C (sp_Letters___eq__ K C) E0) ta tb) σ W (!decide (names = n2)) := fun W1 g1 Q k => ha W1 g1 _ fun v W2 g2 h1 => hb W2 (g1.trans g2) _ fun u W3 g3 h2 => by
  have h1 := h1.s g3
  obtain ⟨l, dl, r, e, z1, z2, z3⟩ := id h1
  obtain ⟨l', dl', r', e', z1', z2', z3'⟩ := id h2
  exact ⟨l, l', dl, dl', _, _, e, e', W3.sub.ins z1, W3.sub.ins z1', W3, v, u, names, _, rfl, rfl, h1, .inl ⟨n2, h2, rfl⟩, fun W4 g4 => ⟨_, rfl, k _ W4 ((g2.trans g3).and g4) rfl⟩⟩
def NoLet (K : Fg) (C : Addr) (d : PyData) : Prop := PySem.W.kitOne K (.type (dcls d)) (.ref C) = some false ∧ PySem.W.subIn K (.type (dcls d)) (.ref C) = some false
theorem ev_letEqA {tb : TE} {d : PyData} (ha : EvP pur ta σ W (LetAt K C names)) (hb : EvR pur K tb σ W d) (hn : NoLet K C d) : EvR pur K (tOp (rInsEqA K C (sp_Letters___eq__ K C) E0) ta tb) σ W false := fun W1 g1 Q k => ha W1 g1 _ fun v W2 g2 h1 => hb W2 (g1.trans g2) _ fun u W3 g3 ru => by
  have h1 := h1.s g3
  obtain ⟨l, dl, r, e, z1, z2, z3⟩ := id h1
  refine ⟨l, dl, _, .type (dcls d), e, W3.sub.ins z1, ty_dt W3 u d ru, by unfold PySem.W.notFirst; rw [hn.2]; simp, W3, v, u, names, false, rfl, rfl, h1, .inr ⟨⟨.type (dcls d), fun W' g => ty_dt W' u d (rep_g g ru), hn.1⟩, rfl⟩, fun W4 g4 => k _ W4 ((g2.trans g3).and g4) rfl⟩
/-- a repr of any thing that can be shown -/
theorem ev_reprO {d : PyData} (h : EvR pur K ta σ W d) (o : OddOk d) : EvR pur K (tCB (rReprV K) (tCons ta tNil)) σ W d.shown := fun W1 g1 Q k => h W1 g1 _ fun v W2 g2 r =>
  ⟨v, d, rfl, dpd_ext W2.sub r, o.sh, o.dp, Evl.sz_of (by have := o.ln; omega), k _ W2 g2 rfl⟩
end
theorem are_of {ns : List Str} (al : Alpha ns) : (GV.t (ns.map PyData.str)).are = true ∧ (GV.t (ns.map PyData.str)).items.map strOf = ns := by
  have e : (ns.map PyData.str).map strOf = ns := by
    rw [List.map_map]
    exact List.map_id ns
  refine ⟨?_, e⟩
  have l : (GV.t (ns.map PyData.str)).items.length = ns.length := List.length_map _
  have l1 := al.lo
  have l2 := al.hi
  unfold GV.are
  rw [l, show (GV.t (ns.map PyData.str)).items.map strOf = ns from e, decide_eq_true l1, decide_eq_true l2, decide_eq_true al.nd]
  have : (GV.t (ns.map PyData.str)).items.all letB = true := List.all_eq_true.mpr fun d hd => by
    obtain ⟨w, hw, rfl⟩ := List.mem_map.mp (show d ∈ ns.map PyData.str from hd)
    exact isLB_word (al.ok w hw)
  rw [this]
  rfl
theorem alpha_sub {ns ms : List Str} (al : Alpha ns) (h1 : ms ≠ []) (nd : ms.Nodup) (hs : ∀ m ∈ ms, m ∈ ns) : Alpha ms := ⟨List.length_pos_iff.mpr h1, Nat.le_trans (nodup_le nd hs) al.hi, nd, fun m hm => al.ok m (hs m hm)⟩
section
variable {K : Fg} {vs : List V} {H : Hp} {Q : VK} {E : XK} {C : Addr}
theorem rd__law_rank_refused (c : LettersC K C) (kl : PySem.W.kitOne K (.ref (cErr K "NoLetter")) (.ref (cErr K "LeftError")) = some true) (xe : PySem.W.exmOne K (.ref (cErr K "NoLetter")) (.ref (cErr K "NoLetter")) = some true) (rf : Refd K "NoLetter") (h : sp__law_rank_refused K C vs H Q E) : t__law_rank_refused K C { nx := fun _ H' => Q .non H', rt := Q } (start n__law_rank_refused vs) H := by
  obtain ⟨W, v, u, names, d, rfl, rfl, hl, ru, od, hno, k⟩ := h
  obtain ⟨l, dl, r, e, h1, h2, h3⟩ := id hl
  subst e
  show tSeq _ _ _ [some (.ref l), some u, none, none] W.H
  refine q_asgH ?_
  show tSeq _ _ _ [some (.ref l), some u, some V.non, none] W.H
  refine ⟨_, rfl, l, dl, _, rfl, W.sub.ins h1, by rw [lookup_putF, if_neg (by decide +kernel)]; all_goals rfl, _, rfl, W, .ref l, u, names, letB d, rfl, rfl, hl, letk_d ru od.tx, .inr ⟨hno, fun W1 dd g1 hd => ⟨true, xe, fun _ a ha => ⟨_, rfl, fun ha' => ?_⟩, fun z => by cases z⟩⟩⟩
  let W3 := W1.put a (BX.ExK (.ref (cErr K "NoLetter")) (some dd) a) (W1.free ha)
  have g3 : Grow W1 W3 := W1.grow_put ha
  have hA : W3.H a = some (BX.ExK (.ref (cErr K "NoLetter")) (some dd) a) := upd_same
  have hD : W3.H dd = some (.xd [("name", u)]) := g3.h _ _ hd
  have ru3 : rep K W3.B u d := rep_g g3 (rep_g g1 ru)
  dsimp only
  show tRet _ _ [some (.ref l), some u, some (.ref a), none] W3.H
  refine s_ret (ε := pur) (K := K) (W := W3) (σ := [some (.ref l), some u, some (.ref a), none]) (x := true) ((ev_andV (a := true) (b := true) ((ev_op (K := K) (ev_rvar (i := 2) rfl) ev_raw ro_notNR).is (by rw [decide_eq_false (fun z => by cases z)]; rfl)) fun _ => (ev_andV (a := true) (b := true) (fun W4 g4 Q k => ⟨_, rfl, a, cErr K "NoLetter", some dd, .ref (cErr K "LeftError"), .ref (cErr K "LeftError"), true, rfl, g4.pure.h _ _ hA, fun d' e' => (by cases e'; exact ⟨_, g4.pure.h _ _ hD⟩), rf.e, fun u h => (by cases h; rfl), kl, k _ W4 g4.rf rfl⟩)
    fun _ => (ev_op (K := K) (x := d.shown) (y := d.shown) (ev_reprO (d := d) (fun W4 g4 Q k => ⟨_, rfl, a, dd, _, u, rfl, g4.pure.h _ _ hA, g4.pure.h _ _ hD, by simp [List.lookup], k _ W4 g4.rf (rep_s g4 ru3)⟩) od) (ev_reprO (ev_var (i := 1) rfl ru3) od) ro_eqS).is (decide_eq_true rfl)).is rfl).is rfl) trivial fun w W4 g4 rw' => ?_
  rw [show w = _ from rw']
  exact k W4 ((g1.trans g3).trans g4.pure)
theorem rd__law_made (c : LettersC K C) (rf : Refd K "NoLetters") (k0 : PySem.W.kitOne K (.type "NoneType") (.ref (cErr K "NoFeed")) = some false) (k1 : PySem.W.kitOne K (.type "NoneType") (.ref (cErr K "NoLetter")) = some false) (k2 : PySem.W.kitOne K (.type "NoneType") (.ref (cErr K "NoMany")) = some false) (k3 : PySem.W.kitOne K (.type "NoneType") (.ref (cErr K "NoName")) = some false) (k4 : PySem.W.kitOne K (.type "NoneType") (.ref (cErr K "NoTally")) = some false) (k5 : PySem.W.kitOne K (.type "NoneType") (.ref (cErr K "NoText")) = some false) (k6 : PySem.W.kitOne K (.type "NoneType") (.ref (cErr K "NoLetters")) = some false)
    (h : sp__law_made K C vs H Q E) : t__law_made K C { nx := fun _ H' => Q .non H', rt := Q } (start n__law_made vs) H := by
  obtain ⟨W, v, g, rfl, rfl, rv, ok, k⟩ := h
  show tSeq _ _ _ [some v, none, none, none, none] W.H
  refine tup2G ⟨Evl.sz_of (by show 2 ≤ 100000; decide), fun q hq => ⟨q, [.non, .non], rfl, SqT.of upd_same, rfl, _, _, rfl, _, _, rfl, rfl, ?_⟩⟩
  let W1 : Wd := W.add q (.tup [.non, .non])
  have g1 : Grow W W1 := W.grow_add hq
  have rv1 : rep K W1.B v g := rep_g g1 rv
  show tSeq _ _ _ [some v, some V.non, some V.non, none, none] W1.H
  let cs : List V := [.ref (cErr K "NoFeed"), .ref (cErr K "NoLetter"), .ref (cErr K "NoMany"), .ref (cErr K "NoName"), .ref (cErr K "NoTally"), .ref (cErr K "NoText")]
  let us : List Value := [.ref (cErr K "NoFeed"), .ref (cErr K "NoLetter"), .ref (cErr K "NoMany"), .ref (cErr K "NoName"), .ref (cErr K "NoTally"), .ref (cErr K "NoText")]
  have hcs : Paired ClsV cs us := .cons (.own _) (.cons (.own _) (.cons (.own _) (.cons (.own _) (.cons (.own _) (.cons (.own _) .nil)))))
  have nf : ∀ {t : Value}, PySem.W.kitOne K t (.ref (cErr K "NoFeed")) = some false → PySem.W.kitOne K t (.ref (cErr K "NoLetter")) = some false → PySem.W.kitOne K t (.ref (cErr K "NoMany")) = some false → PySem.W.kitOne K t (.ref (cErr K "NoName")) = some false → PySem.W.kitOne K t (.ref (cErr K "NoTally")) = some false → PySem.W.kitOne K t (.ref (cErr K "NoText")) = some false → PySem.W.kitAny K t us = some false := fun a b c d e f =>
    kitAny_cons a (fun _ => kitAny_cons b (fun _ => kitAny_cons c (fun _ => kitAny_cons d (fun _ => kitAny_cons e (fun _ => kitAny_cons f (fun _ => kitAny_nil) (fun z => by cases z)) (fun z => by cases z)) (fun z => by cases z)) (fun z => by cases z)) (fun z => by cases z)) (fun z => by cases z)
  refine ⟨_, rfl, fun x dx hx hdx ne => ?_⟩
  obtain ⟨Wb, eb, gab, bx, hbx⟩ := new_ins (W2 := W1) (C := C) hx hdx ne
  refine ⟨Wb, x, dx, v, g, eb, rfl, bx, hbx, rep_g gab rv1, ok, ?_⟩
  -- what is told at the end
  have fin : ∀ (W5 : Wd) (y w : V) (oth b : Bool), Grow W W5 → (∀ W6, Grow W5 W6 → EvR pur K (tAndV (tCB (rOrB (BE.rIsF K) (rIsi K)) (tCons (tVar 2) (tCons (tC (.ref (cErr K "NoLetters"))) tNil))) (tAndV (tCB (rOrB (BE.rIsF K) (rIsi K)) (tCons (tVar 2) (tCons (tC (.ty "ValueError")) tNil))) (tNotV (tVar 4)))) [some v, some y, some w, none, some (.bl oth)] W6 b) →
      (g.are = true → LetAt K C (g.items.map strOf) y W5) → (g.are = false → y = .non ∧ b = true) → tRet (tTup (tCons (tVar 1) (tCons (tAndV (tCB (rOrB (BE.rIsF K) (rIsi K)) (tCons (tVar 2) (tCons (tC (.ref (cErr K "NoLetters"))) tNil))) (tAndV (tCB (rOrB (BE.rIsF K) (rIsi K)) (tCons (tVar 2) (tCons (tC (.ty "ValueError")) tNil))) (tNotV (tVar 4)))) tNil))) { nx := fun _ H' => Q .non H', rt := Q } [some v, some y, some w, none, some (.bl oth)] W5.H := fun W5 y w oth b G5 hb hy hn =>
    ⟨_, rfl, hb W5 (.refl [] W5) W5 (.start trivial) _ fun u W6 g6 eu => ⟨Evl.sz_of (by show 2 ≤ 100000; decide), fun t ht => by
      rw [show u = V.bl b from eu]
      exact k t y b (W6.add t (.tup [y, .bl b])) ((G5.trans g6.pure).trans (W6.grow_add ht)) upd_same (fun z => ((hy z).g g6.pure).g (W6.grow_add ht)) hn⟩⟩
  cases ha : g.are with
  | true =>
    refine .inl ⟨rfl, fun W3 r m3 b3 h3 d3 => ⟨rfl, ?_⟩⟩
    obtain ⟨g3, l3⟩ := made_let (C := C) hx ((Grow.s gab).trans m3) b3 h3 d3 (GV.names ha).1 rfl
    rw [show W3.H = (W3.fix x _ h3).H from rfl]
    generalize W3.fix x _ h3 = W4 at g3 l3
    have nonE : EvR pur K (tCB (rOrB (rIsKT K) (rIsiT K)) (tCons (tVar 2) (tCons (tTup (tCons (tC (.ref (cErr K "NoFeed"))) (tCons (tC (.ref (cErr K "NoLetter"))) (tCons (tC (.ref (cErr K "NoMany"))) (tCons (tC (.ref (cErr K "NoName"))) (tCons (tC (.ref (cErr K "NoTally"))) (tCons (tC (.ref (cErr K "NoText"))) tNil))))))) tNil))) [some v, some (.ref x), some .non, none, none] W4 false := fun W5 g5 Q k =>
      ⟨_, rfl, Evl.sz_of (by show 6 ≤ 100000; decide), fun p hp => .inr ⟨.non, p, cs, .type "NoneType", us, false, rfl, upd_same, hcs, .base .non, nf k0 k1 k2 k3 k4 k5, k _ (W5.add p (.tup cs)) (.of (W5.grow_add hp)) rfl⟩⟩
    dsimp only
    show tSeq _ _ _ [some v, some (.ref x), some .non, none, none] W4.H
    refine q_asg (ε := pur) (K := K) (W := W4) (σ := [some v, some (.ref x), some .non, none, none]) nonE trivial fun u4 W5 g5 e4 => ?_
    rw [show u4 = V.bl false from e4]
    refine fin W5 (.ref x) .non false false ((g1.trans g3).trans g5.pure) (fun W6 g6 => (ev_andV (a := false) (b := false) (fun W7 g7 Q k => ⟨_, rfl, .inr ⟨.non, .ref (cErr K "NoLetters"), .type "NoneType", .ref (cErr K "NoLetters"), false, rfl, .own _, .base .non, k6, k _ W7 g7.rf rfl⟩⟩) fun z => by cases z).is rfl) (fun _ => l3.s g5) (fun z => by rw [ha] at z; cases z)
  | false =>
    refine .inr ⟨rfl, fun W2 g2 => ⟨true, rf.l, fun _ a hA => ⟨_, rfl, fun ha' => ?_⟩, fun z => by cases z⟩⟩
    let W3 := W2.put a (BX.ExK (.ref (cErr K "NoLetters")) none a) (W2.free hA)
    have g3 : Grow W2 W3 := W2.grow_put hA
    have hB : W3.H a = some (BX.ExK (.ref (cErr K "NoLetters")) none a) := upd_same
    have ks : ∀ n ∈ names01, n ≠ "NoLetters" → PySem.W.kitOne K (.ref (cErr K "NoLetters")) (.ref (cErr K n)) = some false := fun n hn ne => by rw [rf.ks n hn, decide_eq_false ne]
    have othE : EvR pur K (tCB (rOrB (rIsKT K) (rIsiT K)) (tCons (tVar 2) (tCons (tTup (tCons (tC (.ref (cErr K "NoFeed"))) (tCons (tC (.ref (cErr K "NoLetter"))) (tCons (tC (.ref (cErr K "NoMany"))) (tCons (tC (.ref (cErr K "NoName"))) (tCons (tC (.ref (cErr K "NoTally"))) (tCons (tC (.ref (cErr K "NoText"))) tNil))))))) tNil))) [some v, some .non, some (.ref a), none, none] W3 false := fun W5 g5 Q k =>
      ⟨_, rfl, Evl.sz_of (by show 6 ≤ 100000; decide), fun p hp => .inl ⟨a, cErr K "NoLetters", p, cs, us, false, rfl, (by
        have hc := g5.pure.h _ _ hB
        have pa : a ≠ p := fun z => by rw [← z, hc] at hp; cases hp
        rw [upd_ne pa]
        exact hc), rf.e, upd_same, hcs, nf (ks _ (by decide +kernel) (by decide +kernel)) (ks _ (by decide +kernel) (by decide +kernel)) (ks _ (by decide +kernel) (by decide +kernel)) (ks _ (by decide +kernel) (by decide +kernel)) (ks _ (by decide +kernel) (by decide +kernel)) (ks _ (by decide +kernel) (by decide +kernel)), k _ (W5.add p (.tup cs)) (.of (W5.grow_add hp)) rfl⟩⟩
    dsimp only
    show tSeq _ _ _ [some v, some .non, some (.ref a), none, none] W3.H
    refine q_asg (ε := pur) (K := K) (W := W3) (σ := [some v, some .non, some (.ref a), none, none]) othE trivial fun u4 W5 g5 e4 => ?_
    rw [show u4 = V.bl false from e4]
    have G5 : Grow W W5 := (((g1.trans gab).trans g2).trans g3).trans g5.pure
    have isF : ∀ {W6 : Wd} {c : V} {cv : Value}, Grow W5 W6 → (∀ u, RelV c u → u = cv) → PySem.W.kitOne K (.ref (cErr K "NoLetters")) cv = some true → EvR pur K (tCB (rOrB (BE.rIsF K) (rIsi K)) (tCons (tVar 2) (tCons (tC c) tNil))) [some v, some .non, some (.ref a), none, some (.bl false)] W6 true := fun {W6 c cv} g6 hc hk W7 g7 Q k =>
      ⟨_, rfl, .inl ⟨a, cErr K "NoLetters", none, c, cv, true, rfl, g7.pure.h _ _ (g6.h _ _ (g5.pure.h _ _ hB)), fun d e => (by cases e), rf.e, hc, hk, k _ W7 g7.rf rfl⟩⟩
    refine fin W5 .non (.ref a) false true G5 (fun W6 g6 => (ev_andV (a := true) (b := true) (isF g6 (fun u h => by cases h; rfl) ((rf.ks _ (by decide +kernel)).trans (by rw [decide_eq_true rfl]))) fun _ => (ev_andV (a := true) (b := true) (isF g6 (fun u h => by cases h; rfl) rf.v) fun _ => (ev_notV (ev_var (i := 4) (x := false) rfl rfl)).is rfl).is rfl).is rfl) (fun z => by rw [ha] at z; cases z) fun _ => ⟨rfl, rfl⟩
end
end B
/-! k01: what letters tell, and whom they equal; the law -/
namespace B
open PySem L2 PySem.Spec PyProof.Rows
open PySem.W (Tup T3 T4 Datum DatumOrd)
open Evl (Ex)
theorem q_dropH {te : TE} {tz : TS} {D : Ends} {σ : SS} {H : Hp} (h : te σ H fun _ H' => tz D σ H') : tSeq (tDrop te) tz D σ H := h
theorem atI_last {α : Type} {xs : List α} (h : 0 < xs.length) : atI xs (-1) = some (xs[xs.length - 1]'(by omega)) := by
  unfold atI ixN
  rw [if_neg (by decide), if_pos (by omega)]
  show xs[(-1 + (xs.length : Int)).toNat]? = _
  rw [show (-1 + (xs.length : Int)).toNat = xs.length - 1 by omega]
  exact List.getElem?_eq_getElem _
def isSD : PyData → Bool
  | .str _ => true
  | _ => false
theorem kit_isS (d : PyData) : kitB (dcls d) "str" = some (isSD d) := by
  cases d with
  | str s => show kitB "str" "str" = some true; decide +kernel
  | none => show kitB "NoneType" "str" = some false; decide +kernel
  | bool b => show kitB "bool" "str" = some false; decide +kernel
  | int i => show kitB "int" "str" = some false; decide +kernel
  | list l => show kitB "list" "str" = some false; decide +kernel
  | tuple l => show kitB "tuple" "str" = some false; decide +kernel
  | dict l => show kitB "dict" "str" = some false; decide +kernel
def hasD (names : List Str) : PyData → Bool
  | .str s => decide (s ∈ names)
  | _ => false
theorem hasB_d {K : Fg} {H : Hp} {v : V} {d : PyData} {names : List Str} (r : rep K H v d) : hasB names v = hasD names d := by
  by_cases c : ∃ s, d = .str s
  · obtain ⟨s, rfl⟩ := c
    rw [rep_strD r]; rfl
  · have c : ∀ s, d ≠ .str s := fun s e => c ⟨s, e⟩
    have hv := rep_notS r c
    have e1 : hasB names v = false := by
      cases v with
      | str s => exact absurd rfl (hv s)
      | _ => rfl
    have e2 : hasD names d = false := by
      cases d with
      | str s => exact absurd rfl (c s)
      | _ => rfl
    rw [e1, e2]
theorem cut_sub {α : Type} {xs : List α} {lo hi : Option Int} : (cutL xs lo hi).Sublist xs := by
  unfold cutL
  exact (List.take_sublist _ _).trans (List.drop_sublist _ _)
theorem cut_drop1 {α : Type} {xs : List α} : cutL xs (some 1) none = xs.drop 1 := by
  unfold cutL
  rw [show (1 : Int) = ((1 : Nat) : Int) from rfl, HT.sIx_nat, HT.sIx_none]
  cases xs with
  | nil => rfl
  | cons x xs =>
    have : min 1 (x :: xs).length = 1 := by rw [List.length_cons]; omega
    rw [this]
    exact List.take_of_length_le (by rw [List.length_drop]; omega)
def mates (names : List Str) : List (List Str) := [names, names.reverse, cutL names (some 1) none, cutL names (some 1) none ++ cutL names none (some 1)]
theorem mates_ok {names : List Str} (nd : names.Nodup) (h1 : 1 ≤ names.length) : ∀ ms ∈ mates names, ms.Nodup ∧ (∀ m ∈ ms, m ∈ names) ∧ ms.length ≤ names.length := fun ms hm => by
  have rot : (cutL names (some 1) none ++ cutL names none (some 1)).Perm names := by
    rw [cut_drop1, show (1 : Int) = ((1 : Nat) : Int) from rfl, cut_take h1]
    have := List.perm_append_comm (l₁ := names.drop 1) (l₂ := names.take 1)
    rwa [List.take_append_drop] at this
  simp only [mates, List.mem_cons, List.not_mem_nil, or_false] at hm
  rcases hm with rfl | rfl | rfl | rfl
  · exact ⟨nd, fun _ h => h, Nat.le_refl _⟩
  · exact ⟨(List.reverse_perm _).nodup_iff.mpr nd, fun _ h => List.mem_reverse.mp h, by rw [List.length_reverse]; exact Nat.le_refl _⟩
  · exact ⟨nd.sublist cut_sub, fun _ h => cut_sub.subset h, cut_len⟩
  · exact ⟨rot.nodup_iff.mpr nd, fun _ h => rot.mem_iff.mp h, by rw [rot.length_eq]; exact Nat.le_refl _⟩
theorem dec_sw {ns ms : List Str} : decide (ms = ns) = decide (ns = ms) := decide_eq_decide.mpr ⟨Eq.symm, Eq.symm⟩
section
variable {K : Fg} {vs : List V} {H : Hp} {Q : VK} {E : XK} {C : Addr}
theorem rd__law_told_right (c : LettersC K C) (h : sp__law_told_right K C vs H Q E) : t__law_told_right K C { nx := fun _ H' => Q .non H', rt := Q } (start n__law_told_right vs) H := by
  obtain ⟨W, p, q, v, vw, names, rfl, rfl, st, hl, rv, k⟩ := h
  have al := hl.al
  have l1 := al.lo
  have l2 := al.hi
  let S : Option V → Option V → SS := fun v3 v4 => [some (.ref p), some v, some vw, v3, v4]
  have L : ∀ {W' : Wd} {v3 v4 : Option V}, On W W' → EvP pur (tVar 1) (S v3 v4) W' (LetAt K C names) := fun o => ep_var (i := 1) rfl (hl.on o) fun W'' g => (hl.on o).s g
  have wE : ∀ {W' : Wd} {v3 v4 : Option V}, On W W' → EvR pur K (tVar 2) (S v3 v4) W' names := fun o => ev_var (i := 2) rfl (rep_on o rv)
  show tSeq _ _ _ (S none none) W.H
  refine q_when (ε := pur) (W := W) (σ := S none none) (b := false) (et_or (a := false) (b := false) ((et_not (et_B (ev_cb2 (ev_lnames (L (.refl W))) ev_raw (rc_isi (b := true) (x := sortS names) ty_lst (by decide +kernel))))).is rfl) fun _ => (et_test (ev_op (K := K) (ev_lnames (L (.refl W))) (ev_cb1 (wE (.refl W)) (rc_sortedSS (by omega))) (ro_neT (by decide)))).is (by rw [decide_eq_true rfl]; rfl)) trivial (fun z => by cases z) fun _ W1 g1 => ?_
  have o1 := g1.on
  show tSeq _ _ _ (S none none) W1.H
  refine q_when (ε := pur) (W := W1) (σ := S none none) (b := false) (et_or (a := false) (b := false) ((et_not (et_B (ev_cb2 (ev_ranked (L o1)) ev_raw (rc_isi (b := true) (x := names) ty_lst (by decide +kernel))))).is rfl) fun _ => et_or (a := false) (b := false) ((et_test (ev_op (K := K) (ev_ranked (L o1)) (wE o1) (ro_neT (by decide)))).is (by rw [decide_eq_true rfl]; rfl)) fun _ => (et_test (ev_op (K := K) (ev_lenL (L o1)) (ev_cb1 (wE o1) rc_len) ro_neI)).is (by rw [decide_eq_true rfl]; rfl)) trivial (fun z => by cases z) fun _ W2 g2 => ?_
  have o2 := o1.trans g2.on
  have hlast : names[names.length - 1]'(by omega) ∈ names := List.getElem_mem _
  show tSeq _ _ _ (S none none) W2.H
  refine q_when (ε := pur) (W := W2) (σ := S none none) (b := false) (et_or (a := false) (b := false) ((et_test (ev_op (K := K) (x := names.map (rankI names)) (y := rng 0 names.length) (ev_lcN (K := K) (j := 3) (f := rankI names) (EvJ.i (ei_list (wE o2))) (fun w u W' hw g r => ev_rank (ep_var (i := 1) rfl (hl.on (o2.trans g.on)) fun W'' g' => (hl.on (o2.trans g.on)).s g') (ev_var (i := 3) rfl r) hw (al.ok w hw)) (by omega)) ((ev_lstRg1 (ev_cb1 (wE o2) rc_len) (RgOk.of_le (by decide) (by omega) (by decide) (by omega))).is (by rw [Int.toNat_natCast])) (ro_neT (by decide)))).is (by rw [ranks_rng al.nd, decide_eq_true rfl]; rfl)) fun _ =>
    (et_test (ev_op (K := K) (x := rankI names (names[names.length - 1]'(by omega))) (y := (names.length : Int) - 1) (ev_rankKw (L o2) (ev_op (K := K) (x := names) (wE o2) (ev_un ev_int ru_neg) (ro_ixL (atI_last (by omega)))) hlast (al.ok _ hlast)) (ev_op (K := K) (ev_cb1 (wE o2) rc_len) ev_int ro_I0) ro_neI)).is (by rw [rank_at al.nd, decide_eq_true (by omega)]; rfl)) trivial (fun z => by cases z) fun _ W3 g3 => ?_
  have o3 := o2.trans g3.on
  have G3 : Grow W W3 := (g1.pure.trans g2.pure).trans g3.pure
  have s3 : St W3 p q := st.g G3
  have rv3 := rep_on o3 rv
  have odd : EvX (drw p q) K (tCall (sp__law_odd K) [] E0 (tCons (tVar 0) (tCons (tCall (sp__law_pick K) [] E0 (tCons (tVar 0) (tCons (tVar 2) tNil))) tNil))) (S none none) W3 OddOk := fun W4 g4 Q k =>
    ⟨_, rfl, (ex_pick (K := K) (i := 0) (P := fun w => w ∈ names) (R := fun ws => ws = names) rfl (ex_of (ev_var (i := 2) rfl rv3) rfl) fun ws e => by subst e; exact ⟨fun z => (by rw [z] at l1; cases l1), by omega, fun _ h => h⟩) W4 g4 _ fun u W5 g5 ⟨w, hw, rw'⟩ => ⟨W5, p, q, w, rfl, by rw [show u = V.str w from rw']; rfl, g5.i, al.ok w hw, fun v d W6 m s r o => k v W6 (g5.trans ⟨m, s⟩) ⟨d, o, r⟩⟩⟩
  show tSeq _ _ _ (S none none) W3.H
  refine q_asgP (ε := drw p q) (W := W3) (σ := S none none) odd s3 fun v4 W4 g4 ⟨d, od, rd⟩ => ?_
  have s4 : St W4 p q := g4.i
  have o4 := o3.trans g4.on
  have M4 : Md [p, q] W W4 := (Grow.s G3).trans g4.md
  -- the rest
  have rest : ∀ W5, Grow W4 W5 → tSeq (tDrop (tBM0 K "list" rClear (tMeth C "names" (sp_Letters_names K C) [] E0 (tVar 1) tNil)))
      (tSeq (tDrop (tBM K "list" rAppend (tMeth C "ranked" (sp_Letters_ranked K C) [] E0 (tVar 1) tNil) (tCons (tC (.str "zz")) tNil)))
      (tRet (tAndV (tOp (rEqT K false) (tMeth C "names" (sp_Letters_names K C) [] E0 (tVar 1) tNil) (tCB (rSortedS K) (tCons (tVar 2) tNil))) (tOp (rEqT K false) (tMeth C "ranked" (sp_Letters_ranked K C) [] E0 (tVar 1) tNil) (tVar 2))))) { nx := fun _ H' => Q .non H', rt := Q } (S none (some v4)) W5.H := fun W5 g5 => by
    have o5 := o4.trans g5.on
    refine q_dropH (x_clear (σ := S none (some v4)) (L o5) fun W6 g6 => ?_)
    have o6 := o5.trans g6.on
    refine q_dropH (x_append (σ := S none (some v4)) (L o6) fun W7 g7 => ?_)
    have o7 := o6.trans g7.on
    refine s_ret (ε := pur) (K := K) (W := W7) (σ := S none (some v4)) (x := true) ((ev_andV (a := true) (b := true) ((ev_op (K := K) (ev_lnames (L o7)) (ev_cb1 (wE o7) (rc_sortedSS (by omega))) (ro_eqT (by decide))).is (decide_eq_true rfl)) fun _ => (ev_op (K := K) (ev_ranked (L o7)) (wE o7) (ro_eqT (by decide))).is (decide_eq_true rfl)).is rfl) trivial fun u W8 g8 eu => ?_
    rw [show u = _ from eu]
    have G8 : Grow W4 W8 := ((g5.trans g6).trans g7).trans g8.pure
    exact k W8 (M4.trans (Grow.s G8)) (s4.g G8)
  show tSeq _ _ _ (S none (some v4)) W4.H
  have tst : EvT pur (tOr (tNot (tB (tCB (rIsi K) (tCons (tVar 4) (tCons (tC (.ty "str")) tNil))))) (tTest (tOp (rNinX K) (tVar 4) (tVar 2)))) (S none (some v4)) W4 (!hasD names d) := by
    by_cases cs : ∃ s, d = .str s
    · obtain ⟨s, rfl⟩ := cs
      have e4 := rep_strD rd
      subst e4
      refine (et_or (a := false) (b := !decide (s ∈ names)) ((et_not (et_B (ev_cb2 (x := PyData.str s) (ev_var (i := 4) rfl rd) ev_raw (rc_isD (b := true) (kit_isS (.str s)))))).is rfl) fun _ => et_test (ev_op (K := K) (x := s) (y := names) (ev_var (i := 4) rfl rfl) (wE o4) fun v u W rv ru Q k => .inl (ro_ninL (by decide) v u W rv ru Q k))).is rfl
    · have cs : ∀ s, d ≠ .str s := fun s e => cs ⟨s, e⟩
      have e1 : isSD d = false := by
        cases d with
        | str s => exact absurd rfl (cs s)
        | _ => rfl
      have e2 : hasD names d = false := by
        cases d with
        | str s => exact absurd rfl (cs s)
        | _ => rfl
      exact (et_or (a := true) (b := false) ((et_not (et_B (ev_cb2 (x := d) (ev_var (i := 4) rfl rd) ev_raw (rc_isD (b := isSD d) (kit_isS d))))).is (by rw [e1]; rfl)) fun z => by cases z).is (by rw [e2]; rfl)
  refine q_when (ε := pur) (W := W4) (σ := S none (some v4)) tst trivial (fun z W5 g5 => ?_) fun _ W5 g5 => rest W5 g5.pure
  have hno : hasB names v4 = false := by rw [hasB_d rd]; exact nb_t z
  refine s_when (ε := pur) (W := W5) (σ := S none (some v4)) (b := false) ((et_not (et_B (b := true) (K := K) (fun W6 g6 Q k => ⟨_, rfl, _, rfl, W6, v, v4, names, d, rfl, rfl, hl.on ((o4.trans g5.on).trans g6.on), rep_s g6 (rep_s g5 rd), od, hno, fun W7 g7 => k _ W7 (g6.rf.and g7) rfl⟩))).is rfl) trivial (fun z => by cases z) fun _ W6 g6 => rest W6 (g5.pure.trans g6.pure)
theorem rd__law_alike_right (c : LettersC K C) (nk : NotLt K C) (ns : NotLs K C) (h : sp__law_alike_right K C vs H Q E) : t__law_alike_right K C { nx := fun _ H' => Q .non H', rt := Q } (start n__law_alike_right vs) H := by
  obtain ⟨W, v, vw, names, rfl, rfl, hl, rv, k⟩ := h
  have al := hl.al
  have l1 := al.lo
  have l2 := al.hi
  let S : Option V → Option V → Option V → SS := fun v2 v3 v4 => [some v, some vw, v2, v3, v4]
  have L : ∀ {W' : Wd} {v2 v3 v4 : Option V}, On W W' → EvP pur (tVar 0) (S v2 v3 v4) W' (LetAt K C names) := fun o => ep_var (i := 0) rfl (hl.on o) fun W'' g => (hl.on o).s g
  have wE : ∀ {W' : Wd} {v2 v3 v4 : Option V}, On W W' → EvR pur K (tVar 1) (S v2 v3 v4) W' names := fun o => ev_var (i := 1) rfl (rep_on o rv)
  show tSeq _ _ _ (S none none none) W.H
  refine q_for (ε := pur) (K := K) (W := W) (σ := S none none none) (xs := mates names) (ei_list (ev_lst (ea_cons (wE (.refl W)) (ea_cons (ev_revL (wE (.refl W))) (ea_cons (ev_slL (wE (.refl W)) (eo_some (K := K) ev_int) eo_none) (ea_cons (ev_op (K := K) (ev_slL (wE (.refl W)) (eo_some (K := K) ev_int) eo_none) (ev_slL (wE (.refl W)) eo_none (eo_some (K := K) ev_int)) (ro_cat (by
      have := @cut_len _ names (some 1) none
      have := @cut_len _ names none (some 1)
      omega))) ea_nil)))) (by show 4 ≤ 100000; decide))) trivial fun W2 g2 =>
    ⟨fun i σ W' => ∃ (v2 v3 v4 : Option V), σ = S v2 v3 v4 ∧ Grow W W' ∧ On W2 W', ⟨_, _, _, rfl, g2.pure, .refl _⟩, fun i σ' W' ⟨_, _, _, _, _, o⟩ => o, ?_, ?_⟩
  · rintro i ms vm σ' W3' W3 hi hx ⟨v2, v3, v4, rfl, G3', o3'⟩ g3 rm
    have G3 := G3'.trans g3
    have o3 := o3'.trans g3.on
    obtain ⟨nd, sb, ml⟩ := mates_ok al.nd l1 ms (List.mem_of_getElem? hx)
    show tIfS _ _ _ _ (S (some vm) v3 v4) W3.H
    refine s_when (ε := pur) (W := W3) (σ := S (some vm) v3 v4) (b := !decide (ms = [])) (et_test (ev_op (K := K) (x := ms) (y := ([] : List Str)) (ev_var (i := 2) rfl rm) (ev_lst ea_nil (by decide)) (ro_neT (by decide)))) trivial (fun z W4 g4 => ?_) fun _ W4 g4 => ⟨W4, rfl, _, _, _, rfl, G3.trans g4.pure, o3.trans g4.on⟩
    have hne : ms ≠ [] := of_decide_eq_false (nb_t z)
    have alm := alpha_sub al hne nd sb
    obtain ⟨ar, ei⟩ := are_of alm
    have rm4 := rep_s g4 rm
    have mk := ep_lettersG (K := K) (C := C) (ε := pur) (W := W4) (σ := S (some vm) v3 v4) (te := tCB (rTupleO K) (tCons (tVar 2) tNil)) (g := .t (ms.map PyData.str)) (ev_gvt (ev_gts (ev_cb1 (ev_var (i := 2) rfl rm4) rc_tupL))) (gok_t alm.ok (by omega)) ar
    rw [ei] at mk
    refine q_asgP (ε := pur) (W := W4) (σ := S (some vm) v3 v4) mk trivial fun v3' W5 g5 lm => ?_
    have o5 : On W W5 := (G3.trans g4.pure).on.trans g5.on
    have rm5 := rep_s g5 rm4
    have M : EvP pur (tVar 3) (S (some vm) (some v3') v4) W5 (LetAt K C ms) := ep_var (i := 3) rfl lm fun W'' g => lm.s g
    have eqs : EvR pur K (tOp (rEqT K false) (tVar 2) (tVar 1)) (S (some vm) (some v3') v4) W5 (decide (names = ms)) := (ev_op (K := K) (ev_var (i := 2) rfl rm5) (wE o5) (ro_eqT (by decide))).is dec_sw
    show tIfS _ _ _ _ (S (some vm) (some v3') v4) W5.H
    refine s_when (ε := pur) (W := W5) (σ := S (some vm) (some v3') v4) (b := false) (et_or (a := false) (b := false) ((et_test (ev_op (K := K) (ev_letEq (L o5) M) eqs ro_neB)).is (by rw [decide_eq_true rfl]; rfl)) fun _ => (et_test (ev_op (K := K) (ev_letNe (L o5) M) eqs ro_eqB)).is (by cases decide (names = ms) <;> rfl)) trivial (fun z => by cases z) fun _ W6 g6 => ⟨W6, rfl, _, _, _, rfl, ((G3.trans g4.pure).trans g5.pure).trans g6.pure, ((o3.trans g4.on).trans g5.on).trans g6.on⟩
  · rintro σ' W3 ⟨v2, v3, v4, rfl, G3, _⟩
    have o3 := G3.on
    have h0 : 0 < names.length := by omega
    let ds : List PyData := [.none, .list (names.map PyData.str), .tuple (names.map PyData.str), .int (names.length : Int), .str names[0]]
    have hds : ∀ d ∈ ds, NoLet K C d := fun d hd => by
      simp only [ds, List.mem_cons, List.not_mem_nil, or_false] at hd
      rcases hd with rfl | rfl | rfl | rfl | rfl
      · exact ⟨nk.k0, ns.s0⟩
      · exact ⟨nk.k2, ns.s2⟩
      · exact ⟨nk.k3, ns.s3⟩
      · exact ⟨nk.k1, ns.s1⟩
      · exact ⟨nk.k4, ns.s4⟩
    have lst : EvR pur K (tLst (tCons (tC .non) (tCons (tVar 1) (tCons (tCB (rTupleO K) (tCons (tVar 1) tNil)) (tCons (tCB (rLen K) (tCons (tVar 1) tNil)) (tCons (tOp (rIxL K) (tVar 1) (tC (.int 0))) tNil)))))) (S v2 v3 v4) W3 ds :=
      ev_lst (ea_cons (ev_dt (α := Unit) ev_non) (ea_cons (ev_dt (α := List Str) (wE o3)) (ea_cons (ev_dt (α := Tup Str) (ev_cb1 (wE o3) rc_tupL)) (ea_cons (ev_dt (α := Int) (ev_cb1 (wE o3) rc_len)) (ea_cons (ev_dt (α := Str) (ev_op (K := K) (x := names) (wE o3) ev_int (ro_ixL (atI_nat (j := 0) (List.getElem?_eq_getElem h0))))) ea_nil))))) (by show 5 ≤ 100000; decide)
    refine s_ret (ε := pur) (K := K) (W := W3) (σ := S v2 v3 v4) (x := true) ((ev_notV ((ev_cb1 (ev_lcN (K := K) (j := 4) (f := fun _ : PyData => false) (EvJ.i (ei_list lst)) (fun d u W' hd g r => ev_letEqA (ep_var (i := 0) rfl (hl.on (o3.trans g.on)) fun W'' g' => (hl.on (o3.trans g.on)).s g') (ev_var (i := 4) rfl r) (hds d hd)) (by show 5 ≤ 100000; decide)) rc_any).is rfl)).is rfl) trivial fun u W4 g4 eu => ?_
    rw [show u = _ from eu]
    exact k W4 (G3.trans g4.pure)
end
end B
/-! k01: the law -/
namespace B
open PySem L2 PySem.Spec PyProof.Rows
open PySem.W (Tup T3 T4 Datum DatumOrd)
open Evl (Ex)
def sp_law (K : Fg) : Sp := fun vs H Q _ => ∃ (a : Addr) (ns : List Int), vs = [.ref a] ∧ SqL K H a (ns.map V.int) ∧ ns.length ≤ 63 ∧ ∀ H', Q (.bl true) H'
theorem len_law {K : Fg} {vs : List V} {H : Hp} {Q : VK} {E : XK} (h : sp_law K vs H Q E) : vs.length = ["_law_script"].length := by
  obtain ⟨a, ns, rfl, _⟩ := h
  rfl
theorem law_in {K : Fg} {H : Hp} (a : Addr) (ns : List Int) (hl : ns.length ≤ 63) (hS : SqL K H a (ns.map V.int)) : sp_law K [.ref a] H (fun v _ => v = .bl true) (fun _ _ _ => False) := ⟨a, ns, rfl, hS, hl, fun _ => rfl⟩
/-- law: the slots 0 _law_script, 1 _law_state, 2 _law_turn, 3 _law_words, 4 _law_handed, 5 _law_things, 6 _law_matter, 7 _law_told, 8 _law_turned_away, 9 _law_given -/
abbrev n_law : List Str := ["_law_script", "_law_state", "_law_turn", "_law_words", "_law_handed", "_law_things", "_law_matter", "_law_told", "_law_turned_away", "_law_given"]
def t_law (K : Fg) (c_Letters : Addr) : TS := (tSeq (tAsg (tCall (sp__law_begun K) [] E0 (tCons (tVar 0) tNil)) (gName 1))
  (tSeq (tFor (iRng1 (tCons (tC (.int 3)) tNil)) (gName 2)
  (tSeq (tAsg (tCall (sp__law_names K) [] E0 (tCons (tVar 1) (tCons (tOp oAdd (tC (.int 1)) (tCall (sp__law_draw K) [] E0 (tCons (tVar 1) (tCons (tC (.int 13)) tNil)))) tNil))) (gName 3))
  (tSeq (tAsg (tCall (sp__law_bent K) [] E0 (tCons (tVar 1) (tCons (tVar 3) tNil))) (gName 4))
  (tSeq (tAsg (tIf (tB (tCB (rIsiT K) (tCons (tVar 4) (tCons (tTup (tCons (tC (.ty "list")) (tCons (tC (.ty "tuple")) tNil))) tNil)))) (tCB (rListO K) (tCons (tVar 4) tNil)) (tLst (tCons (tVar 4) tNil))) (gName 5))
  (tSeq (tFor (iList K (tVar 5)) (gName 6)
  (tIfS (tOr (tNot (tB (tCB (rIsi K) (tCons (tCall (sp_is_letter K) [] E0 (tCons (tVar 6) tNil)) (tCons (tC (.ty "bool")) tNil))))) (tTest (tOp rNe (tCallKw (sp_is_letter K) [0] 1 E0 (tCons (tVar 6) tNil)) (tCall (sp__law_is_letter K) [] E0 (tCons (tVar 6) tNil))))) (tRet (tC (.bl false))) tNext))
  (tSeq (tAsg (tCall (sp__law_made K c_Letters) [] E0 (tCons (tVar 4) tNil)) (gPair K 7 8))
  (tIfS (tNot (tB (tCall (sp__law_are_letters K) [] E0 (tCons (tVar 4) tNil)))) (tIfS (tOr (tTest (tOp oNotN (tVar 7) (tC .non))) (tNot (tB (tVar 8)))) (tRet (tC (.bl false))) tNext) (tSeq (tAsg (tCB (rListO K) (tCons (tVar 4) tNil)) (gName 9))
  (tSeq (tIfS (tB (tCB (rIsi K) (tCons (tVar 4) (tCons (tC (.ty "list")) tNil)))) (tSeq (tAsg (tMakeK c_Letters 0 1 (sp_Letters___init__ K c_Letters) (fun vs zs => vs ++ perm [0] zs) E0 tNil (tCons (tVar 4) tNil)) (gName 7))
  (tDrop (tBM K "list" rAppend (tVar 4) (tCons (tC (.str "more")) tNil)))) tNext)
  (tIfS (tOr (tTest (tOp oIsN (tVar 7) (tC .non))) (tOr (tNot (tB (tCall (sp__law_told_right K c_Letters) [] E0 (tCons (tVar 1) (tCons (tVar 7) (tCons (tVar 9) tNil)))))) (tNot (tB (tCall (sp__law_alike_right K c_Letters) [] E0 (tCons (tVar 7) (tCons (tVar 9) tNil))))))) (tRet (tC (.bl false))) tNext))))))))))
  (tRet (tC (.bl true)))))
/-- for k in range(n), where nothing need stay -/
theorem q_forF {j : Nat} {n : Int} {σ : SS} {H : Hp} {D : Ends} {tu tz : TS} (Pv : Nat → SS → Hp → Prop) (hn : 0 ≤ n ∧ n ≤ 1000000000) (h0 : Pv 0 σ H)
    (hs : ∀ (i : Nat) σ' H', (i : Int) < n → Pv i σ' H' → tu { D with nx := Pv (i + 1), ct := Pv (i + 1), bk := tz D } (σ'.set j (some (.int (i : Int)))) H')
    (hd : ∀ σ' H', Pv n.toNat σ' H' → tz D σ' H') : tSeq (tFor (iRng1 (tCons (tC (.int n)) tNil)) (gName j) tu) tz D σ H :=
  ⟨n, rfl, by omega, by omega, L2.for_range (D := { D with nx := tz D }) Pv h0 (fun i σ H hi p => by
    have := hs i σ H (by omega) p
    show tu _ (σ.set j (some (.int (0 + (i : Nat))))) H
    rw [Int.zero_add]; exact this) (fun σ H p => hd σ H p)⟩
theorem kreps_si {H H' : Hp} {K : Fg} : ∀ {ks : List (Key × V)} {kv : List (Str × Int)}, KReps K H ks kv → KReps K H' ks kv
  | _, _, .nil => .nil
  | _, _, .cons a b => .cons a (kreps_si b)
/-- a list that stayed is changed: what letters tell, and what was copied of it, stays -/
theorem thawed {K : Fg} {C : Addr} {names : List Str} {x ga : Addr} {W : Wd} {p q ah : Addr} {us : List V} {o : HO} (hl : LetAt K C names (.ref x) W) (hg : rep K W.B (.ref ga) names) (st : St W p q) (hB : W.B ah = some (.lst us)) (hne : ga ≠ ah) :
    ∃ Wn : Wd, Wn.H = upd W.H ah o ∧ St Wn p q ∧ LetAt K C names (.ref x) Wn ∧ rep K Wn.B (.ref ga) names := by
  obtain ⟨l, dl, r, e, h1, ⟨r', ks, er, d1, d2, d3⟩, al⟩ := hl
  cases e
  cases er
  obtain ⟨g', vs, eg, g1, g2⟩ := hg
  cases eg
  have hH : W.H ah = some (.lst us) := W.sub.el hB
  have n1 : x ≠ ah := fun z => by rw [z, hB] at h1; cases h1
  have n2 : r ≠ ah := fun z => by rw [z, hB] at d1; cases d1
  let Bn : Hp := fun b => if b = x then some (.ins C dl (putF "ranks" (.ref r) [])) else if b = r then some (.dK ks) else if b = ga then some (.lst vs) else none
  have sub : Ext Bn (upd W.H ah o) := fun b u e => by
    have e : (if b = x then some (.ins C dl (putF "ranks" (.ref r) [])) else if b = r then some (.dK ks) else if b = ga then some (.lst vs) else none) = some u := e
    by_cases c1 : b = x
    · rw [if_pos c1] at e
      cases e
      exact .inl (by rw [c1, upd_ne n1]; exact W.sub.ins h1)
    · rw [if_neg c1] at e
      by_cases c2 : b = r
      · rw [if_pos c2] at e
        cases e
        exact .inl (by rw [c2, upd_ne n2]; exact d2)
      · rw [if_neg c2] at e
        by_cases c3 : b = ga
        · rw [if_pos c3] at e
          cases e
          exact .inl (by rw [c3, upd_ne hne]; exact W.sub.el g1)
        · rw [if_neg c3] at e
          cases e
  have xr : r ≠ x := fun z => by rw [z, h1] at d1; cases d1
  have xg : ga ≠ x := fun z => by rw [z, h1] at g1; cases g1
  have rg : ga ≠ r := fun z => by rw [z, d1] at g1; cases g1
  have Bx : Bn x = some (.ins C dl (putF "ranks" (.ref r) [])) := if_pos rfl
  have Br : Bn r = some (.dK ks) := by
    show (if r = x then _ else if r = r then _ else _) = _
    rw [if_neg xr, if_pos rfl]
  have Bg : Bn ga = some (.lst vs) := by
    show (if ga = x then _ else if ga = r then _ else if ga = ga then _ else _) = _
    rw [if_neg xg, if_neg rg, if_pos rfl]
  have off : ∀ a, W.B a = none → Bn a = none := fun a ha => by
    show (if a = x then _ else if a = r then _ else if a = ga then _ else _) = _
    rw [if_neg (fun z => by rw [z, h1] at ha; cases ha), if_neg (fun z => by rw [z, d1] at ha; cases ha), if_neg (fun z => by rw [z, g1] at ha; cases ha)]
  have pa : p ≠ ah := fun z => by have := st.bp; rw [z, hB] at this; cases this
  have qa : q ≠ ah := fun z => by have := st.bc; rw [z, hB] at this; cases this
  obtain ⟨a0, m0, cs, z1, z2, zr⟩ := st.ex
  refine ⟨⟨Bn, upd W.H ah o, sub⟩, rfl, ⟨off p st.bp, off q st.bc, st.ne, a0, m0, cs, (upd_ne pa).trans z1, (upd_ne qa).trans z2, zr⟩, ⟨x, dl, r, rfl, Bx, ⟨r, ks, rfl, Br, (upd_ne n2).trans d2, kreps_si d3⟩, al⟩, ga, vs, rfl, Bg, ?_⟩
  have := reps_str g2
  rw [this]
  exact str_reps _
section
variable {K : Fg} {vs : List V} {H : Hp} {Q : VK} {E : XK} {C : Addr}
def things (g : GV) : List PyData := if g.row then g.items else [g.d]
theorem things_ok {g : GV} (h : GOk g) (t : TxOk g.d) : ∀ d ∈ things g, TxOk d := fun d hd => by
  unfold things at hd
  cases c : g.row with
  | true => rw [c, if_pos rfl] at hd; exact h.tx d hd
  | false => rw [c, if_neg (by decide)] at hd; rw [List.mem_singleton.mp hd]; exact t
theorem rd_law (c : LettersC K C) (h : sp_law K vs H Q E) : t_law K C { nx := fun _ H' => Q .non H', rt := Q } (start n_law vs) H := by
  obtain ⟨a0, ns, rfl, hS, hl, k⟩ := h
  let W : Wd := ⟨H, H, Ext.refl H⟩
  show t_law K C _ [some (.ref a0), none, none, none, none, none, none, none, none, none] W.H
  refine q_asgH ?_
  refine ⟨_, rfl, W, a0, ns, rfl, rfl, hS, hl, fun p q W1 g1 s1 hp0 hc0 => ?_⟩
  let S : Option V → Option V → Option V → Option V → Option V → Option V → Option V → Option V → SS := fun v2 v3 v4 v5 v6 v7 v8 v9 => [some (.ref a0), some (.ref p), v2, v3, v4, v5, v6, v7, v8, v9]
  show tSeq _ _ _ (S none none none none none none none none) W1.H
  let Pv : Nat → SS → Hp → Prop := fun i σ H => ∃ (v2 v3 v4 v5 v6 v7 v8 v9 : Option V) (W' : Wd), σ = S v2 v3 v4 v5 v6 v7 v8 v9 ∧ W'.H = H ∧ St W' p q
  refine q_forF (n := 3) Pv (by decide) ⟨_, _, _, _, _, _, _, _, W1, rfl, rfl, s1⟩ ?_ fun σ' H' _ => k H'
  rintro i σ' H' hi ⟨v2, v3, v4, v5, v6, v7, v8, v9, W2, rfl, rfl, s2⟩
  -- the letters
  show tSeq _ _ _ (S (some (.int i)) v3 v4 v5 v6 v7 v8 v9) W2.H
  refine q_asgH ⟨_, rfl, (ep_add (m := 1) (P := fun n => 0 ≤ n ∧ n < 13) (ev_draw (K := K) (σ := S (some (.int i)) v3 v4 v5 v6 v7 v8 v9) (i := 1) (p := p) (c := q) rfl (ev_int (n := 13)) (by decide) (by decide))) W2 (.start s2) _ fun u W3 g3 ⟨n, e, hn⟩ => ⟨W3, p, q, 1 + n, rfl, by rw [e]; rfl, g3.i, by omega, by omega, fun vw ws W4 m4 s4 rw' nd wd wl => ?_⟩⟩
  show tSeq _ _ _ (S (some (.int i)) (some vw) v4 v5 v6 v7 v8 v9) W4.H
  -- bent
  refine q_asgH ⟨_, rfl, _, rfl, W4, p, q, vw, ws, rfl, rfl, s4, rw', by omega, by omega, wd, fun vh g W5 m5 s5 rg ok tx => ?_⟩
  show tSeq _ _ _ (S (some (.int i)) (some vw) (some vh) v5 v6 v7 v8 v9) W5.H
  have isG : ∀ {W' : Wd} {σ : SS}, σ[4]? = some (some vh) → On W5 W' → EvT pur (tB (tCB (rIsiT K) (tCons (tVar 4) (tCons (tTup (tCons (tC (.ty "list")) (tCons (tC (.ty "tuple")) tNil))) tNil)))) σ W' g.row := fun h4 o => et_B (ev_isG (v := vh) (ev_var (i := 4) h4 (rep_on o rg)))
  refine q_asg (ε := pur) (K := K) (W := W5) (σ := S (some (.int i)) (some vw) (some vh) v5 v6 v7 v8 v9) (x := things g) (ev_if (isG rfl (.refl W5)) (fun z => ev_listG (ev_var (i := 4) rfl rg) z) (fun z => ev_lst (ea_cons (by
      cases g with
      | l ds => cases z
      | t ds => cases z
      | o d => exact ev_var (i := 4) rfl (show gRep K W5.B vh (.o d) from rg).1) ea_nil) (by show 1 ≤ 100000; decide))) trivial fun v5' W6 g6 rt => ?_
  show tSeq _ _ _ (S (some (.int i)) (some vw) (some vh) (some v5') v6 v7 v8 v9) W6.H
  have tok := things_ok ok tx
  -- each thing
  refine q_for (ε := pur) (K := K) (W := W6) (σ := S (some (.int i)) (some vw) (some vh) (some v5') v6 v7 v8 v9) (xs := things g) (ei_list (ev_var (i := 5) rfl rt)) trivial fun W7 g7 =>
    ⟨fun j σ W' => ∃ (v6 : Option V), σ = S (some (.int i)) (some vw) (some vh) (some v5') v6 v7 v8 v9 ∧ Grow W6 W' ∧ On W7 W', ⟨_, rfl, g7.pure, .refl _⟩, fun i σ' W' ⟨_, _, _, o⟩ => o, ?_, ?_⟩
  · rintro j d vd σ' W8' W8 hj hx ⟨v6, rfl, G8', o8'⟩ g8 rd
    have G8 := G8'.trans g8
    have o8 := o8'.trans g8.on
    have lk : LetK K vd (letB d) W8 := letk_d rd (tok d (List.mem_of_getElem? hx))
    show tIfS _ _ _ _ (S (some (.int i)) (some vw) (some vh) (some v5') (some vd) v7 v8 v9) W8.H
    refine s_when (ε := pur) (W := W8) (σ := S (some (.int i)) (some vw) (some vh) (some v5') (some vd) v7 v8 v9) (b := false) (et_or (a := false) (b := false) ((et_not (et_B (ev_cb2 (ev_isLetK (i := 6) rfl lk) ev_raw (rc_isi (b := true) ty_bl (by decide +kernel))))).is rfl) fun _ => (et_test (ev_op (K := K) (x := letB d) (y := letB d) (fun W9 g9 Q k => ⟨_, rfl, rfl, W9, vd, letB d, rfl, rfl, lk.gr g9.pure, fun W10 g10 => k _ W10 (g9.rf.and g10) rfl⟩) (fun W9 g9 Q k => ⟨_, rfl, W9, vd, letB d, rfl, rfl, lk.gr g9.pure, fun W10 g10 => k _ W10 (g9.rf.and g10) rfl⟩) ro_neB)).is (by rw [decide_eq_true rfl]; rfl)) trivial (fun z => by cases z) fun _ W9 g9 => ⟨W9, rfl, _, rfl, G8.trans g9.pure, o8.trans g9.on⟩
  rintro σ' W8 ⟨v6, rfl, G8, _⟩
  have G58 : Grow W5 W8 := g6.pure.trans G8
  have rg8 : rep K W8.B vh g := rep_g G58 rg
  have s8 : St W8 p q := s5.g G58
  show tSeq _ _ _ (S (some (.int i)) (some vw) (some vh) (some v5') v6 v7 v8 v9) W8.H
  -- made
  refine ⟨_, rfl, W8, vh, g, rfl, rfl, rg8, ok, fun t x b W9 g9 ht ha hn => ⟨t, [x, .bl b], rfl, SqT.of (W9.sub.et ht), rfl, x, [.bl b], rfl, .bl b, [], rfl, rfl, ?_⟩⟩
  have rg9 : rep K W9.B vh g := rep_g g9 rg8
  have s9 : St W9 p q := s8.g g9
  dsimp only
  show tIfS _ _ _ _ (S (some (.int i)) (some vw) (some vh) (some v5') v6 (some x) (some (.bl b)) v9) W9.H
  have fin : ∀ (W' : Wd) (v2 v3 v4 v5 v6 v7 v8 v9 : Option V), St W' p q → Pv (i + 1) (S v2 v3 v4 v5 v6 v7 v8 v9) W'.H := fun W' v2 v3 v4 v5 v6 v7 v8 v9 s => ⟨v2, v3, v4, v5, v6, v7, v8, v9, W', rfl, rfl, s⟩
  refine s_if (ε := pur) (W := W9) (σ := S (some (.int i)) (some vw) (some vh) (some v5') v6 (some x) (some (.bl b)) v9) (b := !g.are) (et_not (et_B (K := K) (fun W10 g10 Q k => ⟨_, rfl, W10, vh, g, rfl, rfl, rep_s g10 rg9, ok, fun W11 g11 => k _ W11 (g10.rf.and g11) rfl⟩))) trivial (fun z W10 g10 => ?_) (fun z W10 g10 => ?_)
  · obtain ⟨rfl, rfl⟩ := hn (nb_t z)
    refine s_when (ε := pur) (W := W10) (σ := S (some (.int i)) (some vw) (some vh) (some v5') v6 (some .non) (some (.bl true)) v9) (b := false) (et_or (a := false) (b := false) ((et_test (ev_op (K := K) (ev_rvar (i := 7) rfl) ev_raw ro_notNR)).is (by rw [decide_eq_true rfl]; rfl)) fun _ => (et_not (et_B (K := K) (ev_var (i := 8) (x := true) rfl rfl))).is rfl) trivial (fun z => by cases z) fun _ W11 g11 => fin _ _ _ _ _ _ _ _ _ ((s9.g g10.pure).g g11.pure)
  have hare := nb_f z
  obtain ⟨al, ei, hr⟩ := GV.names hare
  have lx : LetAt K C (g.items.map strOf) x W10 := (ha hare).s g10
  have rg10 := rep_s g10 rg9
  have s10 : St W10 p q := s9.g g10.pure
  -- what is told, whom they equal
  have last : ∀ (W' : Wd) (y : V) (ga : Addr) (v6 : Option V), LetAt K C (g.items.map strOf) y W' → rep K W'.B (.ref ga) (g.items.map strOf) → St W' p q →
      tIfS (tOr (tTest (tOp oIsN (tVar 7) (tC .non))) (tOr (tNot (tB (tCall (sp__law_told_right K C) [] E0 (tCons (tVar 1) (tCons (tVar 7) (tCons (tVar 9) tNil)))))) (tNot (tB (tCall (sp__law_alike_right K C) [] E0 (tCons (tVar 7) (tCons (tVar 9) tNil))))))) (tRet (tC (.bl false))) tNext
        { nx := Pv (i + 1), rt := Q, bk := tRet (tC (.bl true)) { nx := fun _ H' => Q .non H', rt := Q }, ct := Pv (i + 1) } (S (some (.int i)) (some vw) (some vh) (some v5') v6 (some y) (some (.bl b)) (some (.ref ga))) W'.H := fun W' y ga v6 ly rga s => by
    obtain ⟨l, dl, r, e, h1, h2, h3⟩ := id ly
    refine s_when (ε := drw p q) (W := W') (σ := S (some (.int i)) (some vw) (some vh) (some v5') v6 (some y) (some (.bl b)) (some (.ref ga))) (b := false) (et_or (a := false) (b := false) ((et_test (ev_op (K := K) (ev_rvar (i := 7) rfl) ev_raw ro_isNR)).is (by rw [e]; rfl)) fun _ => et_or (a := false) (b := false) ((et_not (et_B (b := true) (K := K) (fun W1 g1 Q k => ⟨_, rfl, _, rfl, _, rfl, W1, p, q, y, .ref ga, g.items.map strOf, rfl, rfl, g1.i, ly.s g1, rep_s g1 rga, fun W2 m s => k _ W2 ⟨m, s⟩ rfl⟩))).is rfl) fun _ =>
      (et_not (et_B (b := true) (K := K) (fun W1 g1 Q k => ⟨_, rfl, _, rfl, W1, y, .ref ga, g.items.map strOf, rfl, rfl, ly.s g1, rep_s g1 rga, fun W2 g2 => k _ W2 (g1.rf.and g2) rfl⟩))).is rfl) s (fun z => by cases z) fun _ W2 g2 => fin _ _ _ _ _ _ _ _ _ g2.i
  -- given = list(handed)
  have giv : ∃ ah ys, vh = .ref ah ∧ (SqL K W10.H ah ys ∨ SqT K W10.H ah ys) ∧ Reps K W10.B ys (g.items.map strOf) ∧ (g.isL = true → W10.B ah = some (.lst ys)) := by
    cases g with
    | l ds =>
      obtain ⟨a, us, e, s, r⟩ := rg10
      have ei : ds = (ds.map strOf).map PyData.str := ei
      rw [ei] at r
      exact ⟨a, us, e, .inl (SqL.of (W10.sub.el s)), reps_strD r, fun _ => s⟩
    | t ds =>
      obtain ⟨a, us, e, s, r⟩ := rg10
      have ei : ds = (ds.map strOf).map PyData.str := ei
      have r : Reps K W10.B us ds := r
      rw [ei] at r
      exact ⟨a, us, e, .inr (SqT.of (W10.sub.et s)), reps_strD r, fun z => by cases z⟩
    | o d => cases hr
  obtain ⟨ah, ys, rfl, hsq, hys, hlst⟩ := giv
  refine q_asgH ⟨_, rfl, ah, ys, rfl, hsq, fun ga hga => ?_⟩
  let W11 : Wd := W10.add ga (.lst ys)
  have g11 : Grow W10 W11 := W10.grow_add hga
  have rga : rep K W11.B (.ref ga) (g.items.map strOf) := ⟨ga, ys, rfl, upd_same, Reps.mono (exExt g11.b) hys⟩
  have s11 : St W11 p q := s10.g g11
  have rg11 : rep K W11.B (.ref ah) g := rep_g g11 rg10
  show tSeq _ _ _ (S (some (.int i)) (some vw) (some (.ref ah)) (some v5') v6 (some x) (some (.bl b)) (some (.ref ga))) W11.H
  refine q_when (ε := pur) (W := W11) (σ := S (some (.int i)) (some vw) (some (.ref ah)) (some v5') v6 (some x) (some (.bl b)) (some (.ref ga))) (b := g.isL) (et_B (ev_cb2 (x := g) (ev_var (i := 4) rfl rg11) ev_raw (rc_isi (fun W v h => ty_gv W v g h) (gv_kL rg11)))) trivial (fun z W12 g12 => ?_) fun z W12 g12 => last W12 x ga v6 ((lx.g g11).s g12) (rep_s g12 rga) (s11.g g12.pure)
  -- a list: made anew by name, then changed
  have hB : W12.B ah = some (.lst ys) := g12.md.b _ _ (g11.b _ _ (hlst z))
  have neg : ga ≠ ah := fun e => by
    have := W10.sub.el (hlst z)
    rw [← e, hga] at this
    cases this
  refine q_asgH ⟨_, rfl, rfl, rfl, fun y dx hy hdx ne => ?_⟩
  obtain ⟨Wb, eb, gab, by', hby⟩ := new_ins (W2 := W12) (C := C) hy hdx ne
  refine ⟨Wb, y, dx, .ref ah, g, eb, rfl, by', hby, rep_g gab (rep_s g12 rg11), ok, .inl ⟨hare, fun W13 r m3 b3 h3 d3 => ⟨rfl, ?_⟩⟩⟩
  obtain ⟨g13, l13⟩ := made_let (C := C) hy ((Grow.s gab).trans m3) b3 h3 d3 al rfl
  rw [show W13.H = (W13.fix y _ h3).H from rfl]
  generalize W13.fix y _ h3 = W14 at g13 l13
  have G14 : Grow W11 W14 := g12.pure.trans g13
  have hB14 : W14.B ah = some (.lst ys) := g13.b _ _ hB
  have hH14 : W14.H ah = some (.lst ys) := W14.sub.el hB14
  refine ⟨_, rfl, .inl ⟨rfl, ys, SqL.of hH14⟩, ah, ys, .str "more", rfl, rfl, hH14, Evl.sz_lt (by rw [Reps.len hys]; have := al.hi; omega), ?_⟩
  obtain ⟨Wn, en, sn, ln, rn⟩ := thawed (o := .lst (ys ++ [.str "more"])) l13 (rep_g G14 rga) (s11.g G14) hB14 neg
  rw [← en]
  exact last Wn (.ref y) ga v6 ln rn sn
end
end B
namespace B
open PySem L2 PyProof.Rows PySem.Spec
open Evl (Ex)
def relS (scope sc : Scope) : Scope := { scope with names := scope.names.map fun (n, k) => if (k == .free && sc.kind == .function && sc.names.lookup n == some .cell) then (n, .cell) else (n, k) }
theorem blkOk_in {X : Cx} {N : List Str} {scO sc scope : Scope} {own : List (Str × Nat)} {s : Shared} {H : Hp} {C : Addr} {cl : List (Str × Addr)} {fp : List Addr} (hN : X.N = N) (hsc : X.env.scope = sc) (h : blkC N (relS scO sc) scope own = true) : BlkOk (X.blk s H scO (compEnvC scO cl C X.env) fp).N (X.blk s H scO (compEnvC scO cl C X.env) fp).env.scope scope own := by
  subst hN hsc
  exact blkOk_by h
def topS (i : Nat) : Stmt := PySem.Challenge.pw_bygone_k01_letters_known.main.body.getD i (.Pass ⟨0, 0, 0, 0⟩)
/-! NoLetter.__init__ -/
abbrev s_NoLetter___init__ : Stmt := inClass (topS 3) 0
theorem sc_NoLetter___init__ : FnScope n_NoLetter___init__ ["self", "name"] (defScope s_NoLetter___init__) := ⟨rfl, rfl, rfl, by decide +kernel, rfl, by decide +kernel, by decide +kernel⟩
/-! is_letter -/
abbrev s_is_letter : Stmt := topS 10
theorem sc_is_letter : FnScope n_is_letter ["thing"] (defScope s_is_letter) := ⟨rfl, rfl, rfl, by decide +kernel, rfl, by decide +kernel, by decide +kernel⟩
/-! Letters.__init__ -/
abbrev s_Letters___init__ : Stmt := inClass (topS 11) 0
theorem sc_Letters___init__ : FnScope n_Letters___init__ ["self", "names"] (defScope s_Letters___init__) := ⟨rfl, rfl, rfl, by decide +kernel, rfl, by decide +kernel, by decide +kernel⟩
/-! Letters.__len__ -/
abbrev s_Letters___len__ : Stmt := inClass (topS 11) 1
theorem sc_Letters___len__ : FnScope n_Letters___len__ ["self"] (defScope s_Letters___len__) := ⟨rfl, rfl, rfl, by decide +kernel, rfl, by decide +kernel, by decide +kernel⟩
/-! Letters.ranked -/
abbrev s_Letters_ranked : Stmt := inClass (topS 11) 4
theorem sc_Letters_ranked : FnScope n_Letters_ranked ["self"] (defScope s_Letters_ranked) := ⟨rfl, rfl, rfl, by decide +kernel, rfl, by decide +kernel, by decide +kernel⟩
/-! Letters.__eq__ -/
abbrev s_Letters___eq__ : Stmt := inClass (topS 11) 2
theorem sc_Letters___eq__ : FnScope n_Letters___eq__ ["self", "other"] (defScope s_Letters___eq__) := ⟨rfl, rfl, rfl, by decide +kernel, rfl, by decide +kernel, by decide +kernel⟩
/-! Letters.names -/
abbrev s_Letters_names : Stmt := inClass (topS 11) 3
theorem sc_Letters_names : FnScope n_Letters_names ["self"] (defScope s_Letters_names) := ⟨rfl, rfl, rfl, by decide +kernel, rfl, by decide +kernel, by decide +kernel⟩
/-! Letters.has -/
abbrev s_Letters_has : Stmt := inClass (topS 11) 5
theorem sc_Letters_has : FnScope n_Letters_has ["self", "thing"] (defScope s_Letters_has) := ⟨rfl, rfl, rfl, by decide +kernel, rfl, by decide +kernel, by decide +kernel⟩
/-! Letters.rank -/
abbrev s_Letters_rank : Stmt := inClass (topS 11) 6
theorem sc_Letters_rank : FnScope n_Letters_rank ["self", "name"] (defScope s_Letters_rank) := ⟨rfl, rfl, rfl, by decide +kernel, rfl, by decide +kernel, by decide +kernel⟩
/-! _law_begun -/
abbrev s__law_begun : Stmt := topS 13
theorem sc__law_begun : FnScope n__law_begun ["_law_script"] (defScope s__law_begun) := ⟨rfl, rfl, rfl, by decide +kernel, rfl, by decide +kernel, by decide +kernel⟩
/-! _law_draw -/
abbrev s__law_draw : Stmt := topS 14
theorem sc__law_draw : FnScope n__law_draw ["_law_state", "_law_many"] (defScope s__law_draw) := ⟨rfl, rfl, rfl, by decide +kernel, rfl, by decide +kernel, by decide +kernel⟩
/-! _law_pick -/
abbrev s__law_pick : Stmt := topS 15
theorem sc__law_pick : FnScope n__law_pick ["_law_state", "_law_some"] (defScope s__law_pick) := ⟨rfl, rfl, rfl, by decide +kernel, rfl, by decide +kernel, by decide +kernel⟩
/-! _law_names -/
abbrev s__law_names : Stmt := topS 16
theorem sc__law_names : FnScope n__law_names ["_law_state", "_law_many"] (defScope s__law_names) := ⟨rfl, rfl, rfl, by decide +kernel, rfl, by decide +kernel, by decide +kernel⟩
/-! _law_is_letter -/
abbrev s__law_is_letter : Stmt := topS 17
theorem sc__law_is_letter : FnScope n__law_is_letter ["_law_matter"] (defScope s__law_is_letter) := ⟨rfl, rfl, rfl, by decide +kernel, rfl, by decide +kernel, by decide +kernel⟩
/-! _law_odd -/
abbrev s__law_odd : Stmt := topS 18
theorem sc__law_odd : FnScope n__law_odd ["_law_state", "_law_word"] (defScope s__law_odd) := ⟨rfl, rfl, rfl, by decide +kernel, rfl, by decide +kernel, by decide +kernel⟩
/-! _law_bent -/
abbrev s__law_bent : Stmt := topS 19
theorem sc__law_bent : FnScope n__law_bent ["_law_state", "_law_words"] (defScope s__law_bent) := ⟨rfl, rfl, rfl, by decide +kernel, rfl, by decide +kernel, by decide +kernel⟩
/-! _law_are_letters -/
abbrev s__law_are_letters : Stmt := topS 20
theorem sc__law_are_letters : FnScope n__law_are_letters ["_law_matter"] (defScope s__law_are_letters) := ⟨rfl, rfl, rfl, by decide +kernel, rfl, by decide +kernel, by decide +kernel⟩
/-! _law_rank_refused -/
abbrev s__law_rank_refused : Stmt := topS 21
theorem sc__law_rank_refused : FnScope n__law_rank_refused ["_law_told", "_law_matter"] (defScope s__law_rank_refused) := ⟨rfl, rfl, rfl, by decide +kernel, rfl, by decide +kernel, by decide +kernel⟩
/-! _law_told_right -/
abbrev s__law_told_right : Stmt := topS 22
theorem sc__law_told_right : FnScope n__law_told_right ["_law_state", "_law_told", "_law_words"] (defScope s__law_told_right) := ⟨rfl, rfl, rfl, by decide +kernel, rfl, by decide +kernel, by decide +kernel⟩
/-! _law_alike_right -/
abbrev s__law_alike_right : Stmt := topS 23
theorem sc__law_alike_right : FnScope n__law_alike_right ["_law_told", "_law_words"] (defScope s__law_alike_right) := ⟨rfl, rfl, rfl, by decide +kernel, rfl, by decide +kernel, by decide +kernel⟩
/-! _law_made -/
abbrev s__law_made : Stmt := topS 24
theorem sc__law_made : FnScope n__law_made ["_law_matter"] (defScope s__law_made) := ⟨rfl, rfl, rfl, by decide +kernel, rfl, by decide +kernel, by decide +kernel⟩
/-! law -/
abbrev s_law : Stmt := topS 25
theorem sc_law : FnScope n_law ["_law_script"] (defScope s_law) := ⟨rfl, rfl, rfl, by decide +kernel, rfl, by decide +kernel, by decide +kernel⟩

structure Tx (K : Fg) (mg : Str → Option Value) where
  m_isinstance : mg "isinstance" = none
  m_str : mg "str" = none
  m_len : mg "len" = none
  m_all : mg "all" = none
  m_list : mg "list" = none
  m_tuple : mg "tuple" = none
  m_set : mg "set" = none
  m_enumerate : mg "enumerate" = none
  m_sorted : mg "sorted" = none
  m_abs : mg "abs" = none
  m_range : mg "range" = none
  m_repr : mg "repr" = none
  m_any : mg "any" = none
  m_ValueError : mg "ValueError" = none
  m_bool : mg "bool" = none
  f_NoLetter___init__ : Addr
  d_NoLetter___init__ : FuncData
  F_NoLetter___init__ : Fun K "__init__" "NoLetter.__init__" s_NoLetter___init__ f_NoLetter___init__ d_NoLetter___init__
  b_NoLetter___init__ : Binds K d_NoLetter___init__ ["self", "name"] []
  f_is_letter : Addr
  d_is_letter : FuncData
  F_is_letter : Fun K "is_letter" "is_letter" s_is_letter f_is_letter d_is_letter
  b_is_letter : Binds K d_is_letter ["thing"] []
  g_is_letter : mg "is_letter" = some (.ref f_is_letter)
  f_Letters___init__ : Addr
  d_Letters___init__ : FuncData
  F_Letters___init__ : Fun K "__init__" "Letters.__init__" s_Letters___init__ f_Letters___init__ d_Letters___init__
  b_Letters___init__ : Binds K d_Letters___init__ ["self", "names"] []
  f_Letters___len__ : Addr
  d_Letters___len__ : FuncData
  F_Letters___len__ : Fun K "__len__" "Letters.__len__" s_Letters___len__ f_Letters___len__ d_Letters___len__
  b_Letters___len__ : Binds K d_Letters___len__ ["self"] []
  f_Letters_ranked : Addr
  d_Letters_ranked : FuncData
  F_Letters_ranked : Fun K "ranked" "Letters.ranked" s_Letters_ranked f_Letters_ranked d_Letters_ranked
  b_Letters_ranked : Binds K d_Letters_ranked ["self"] []
  f_Letters___eq__ : Addr
  d_Letters___eq__ : FuncData
  F_Letters___eq__ : Fun K "__eq__" "Letters.__eq__" s_Letters___eq__ f_Letters___eq__ d_Letters___eq__
  b_Letters___eq__ : Binds K d_Letters___eq__ ["self", "other"] []
  f_Letters_names : Addr
  d_Letters_names : FuncData
  F_Letters_names : Fun K "names" "Letters.names" s_Letters_names f_Letters_names d_Letters_names
  b_Letters_names : Binds K d_Letters_names ["self"] []
  f_Letters_has : Addr
  d_Letters_has : FuncData
  F_Letters_has : Fun K "has" "Letters.has" s_Letters_has f_Letters_has d_Letters_has
  b_Letters_has : Binds K d_Letters_has ["self", "thing"] []
  f_Letters_rank : Addr
  d_Letters_rank : FuncData
  F_Letters_rank : Fun K "rank" "Letters.rank" s_Letters_rank f_Letters_rank d_Letters_rank
  b_Letters_rank : Binds K d_Letters_rank ["self", "name"] []
  f__law_begun : Addr
  d__law_begun : FuncData
  F__law_begun : Fun K "_law_begun" "_law_begun" s__law_begun f__law_begun d__law_begun
  b__law_begun : Binds K d__law_begun ["_law_script"] []
  g__law_begun : mg "_law_begun" = some (.ref f__law_begun)
  f__law_draw : Addr
  d__law_draw : FuncData
  F__law_draw : Fun K "_law_draw" "_law_draw" s__law_draw f__law_draw d__law_draw
  b__law_draw : Binds K d__law_draw ["_law_state", "_law_many"] []
  g__law_draw : mg "_law_draw" = some (.ref f__law_draw)
  f__law_pick : Addr
  d__law_pick : FuncData
  F__law_pick : Fun K "_law_pick" "_law_pick" s__law_pick f__law_pick d__law_pick
  b__law_pick : Binds K d__law_pick ["_law_state", "_law_some"] []
  g__law_pick : mg "_law_pick" = some (.ref f__law_pick)
  f__law_names : Addr
  d__law_names : FuncData
  F__law_names : Fun K "_law_names" "_law_names" s__law_names f__law_names d__law_names
  b__law_names : Binds K d__law_names ["_law_state", "_law_many"] []
  g__law_names : mg "_law_names" = some (.ref f__law_names)
  f__law_is_letter : Addr
  d__law_is_letter : FuncData
  F__law_is_letter : Fun K "_law_is_letter" "_law_is_letter" s__law_is_letter f__law_is_letter d__law_is_letter
  b__law_is_letter : Binds K d__law_is_letter ["_law_matter"] []
  g__law_is_letter : mg "_law_is_letter" = some (.ref f__law_is_letter)
  f__law_odd : Addr
  d__law_odd : FuncData
  F__law_odd : Fun K "_law_odd" "_law_odd" s__law_odd f__law_odd d__law_odd
  b__law_odd : Binds K d__law_odd ["_law_state", "_law_word"] []
  g__law_odd : mg "_law_odd" = some (.ref f__law_odd)
  f__law_bent : Addr
  d__law_bent : FuncData
  F__law_bent : Fun K "_law_bent" "_law_bent" s__law_bent f__law_bent d__law_bent
  b__law_bent : Binds K d__law_bent ["_law_state", "_law_words"] []
  g__law_bent : mg "_law_bent" = some (.ref f__law_bent)
  f__law_are_letters : Addr
  d__law_are_letters : FuncData
  F__law_are_letters : Fun K "_law_are_letters" "_law_are_letters" s__law_are_letters f__law_are_letters d__law_are_letters
  b__law_are_letters : Binds K d__law_are_letters ["_law_matter"] []
  g__law_are_letters : mg "_law_are_letters" = some (.ref f__law_are_letters)
  f__law_rank_refused : Addr
  d__law_rank_refused : FuncData
  F__law_rank_refused : Fun K "_law_rank_refused" "_law_rank_refused" s__law_rank_refused f__law_rank_refused d__law_rank_refused
  b__law_rank_refused : Binds K d__law_rank_refused ["_law_told", "_law_matter"] []
  g__law_rank_refused : mg "_law_rank_refused" = some (.ref f__law_rank_refused)
  f__law_told_right : Addr
  d__law_told_right : FuncData
  F__law_told_right : Fun K "_law_told_right" "_law_told_right" s__law_told_right f__law_told_right d__law_told_right
  b__law_told_right : Binds K d__law_told_right ["_law_state", "_law_told", "_law_words"] []
  g__law_told_right : mg "_law_told_right" = some (.ref f__law_told_right)
  f__law_alike_right : Addr
  d__law_alike_right : FuncData
  F__law_alike_right : Fun K "_law_alike_right" "_law_alike_right" s__law_alike_right f__law_alike_right d__law_alike_right
  b__law_alike_right : Binds K d__law_alike_right ["_law_told", "_law_words"] []
  g__law_alike_right : mg "_law_alike_right" = some (.ref f__law_alike_right)
  f__law_made : Addr
  d__law_made : FuncData
  F__law_made : Fun K "_law_made" "_law_made" s__law_made f__law_made d__law_made
  b__law_made : Binds K d__law_made ["_law_matter"] []
  g__law_made : mg "_law_made" = some (.ref f__law_made)
  f_law : Addr
  d_law : FuncData
  F_law : Fun K "law" "law" s_law f_law d_law
  c_Letters : Addr
  g_Letters : mg "Letters" = some (.ref c_Letters)
  rc_Letters : LettersC K c_Letters
  K_Letters : Mk K c_Letters f_Letters___init__
  M_Letters___len__ : Meth K c_Letters "__len__" f_Letters___len__
  M_Letters___eq__ : Meth K c_Letters "__eq__" f_Letters___eq__
  M_Letters_names : Meth K c_Letters "names" f_Letters_names
  M_Letters_ranked : Meth K c_Letters "ranked" f_Letters_ranked
  M_Letters_has : Meth K c_Letters "has" f_Letters_has
  M_Letters_rank : Meth K c_Letters "rank" f_Letters_rank
  g_LeftError : mg "LeftError" = some (.ref (cErr K "LeftError"))
  g_NoFeed : mg "NoFeed" = some (.ref (cErr K "NoFeed"))
  g_NoLetter : mg "NoLetter" = some (.ref (cErr K "NoLetter"))
  g_NoLetters : mg "NoLetters" = some (.ref (cErr K "NoLetters"))
  g_NoMany : mg "NoMany" = some (.ref (cErr K "NoMany"))
  g_NoName : mg "NoName" = some (.ref (cErr K "NoName"))
  g_NoTally : mg "NoTally" = some (.ref (cErr K "NoTally"))
  g_NoText : mg "NoText" = some (.ref (cErr K "NoText"))
  rc_NoLetters : BX.ErrC K (cErr K "NoLetters")
  ri_NoLetter : OexC K (cErr K "NoLetter")
  ii_NoLetter : PySem.W.findIn K (.ref (cErr K "NoLetter")) "__init__" = some (some (.ref f_NoLetter___init__))
  ti_NoLetter : PySem.W.typeIn K (.ref f_NoLetter___init__) = some (.type "function")
  xo_NoLetter_name : PySem.W.findIn K (.ref (cErr K "NoLetter")) "name" = some none
  xf_NoLetter : XfC K (cErr K "NoLetter")
  xe_NoLetter : PySem.W.exmOne K (.ref (cErr K "NoLetter")) (.ref (cErr K "NoLetter")) = some true
  rf_NoLetters : Refd K "NoLetters"
  rf_NoLetter : Refd K "NoLetter"
  kl_NoLetter : PySem.W.kitOne K (.ref (cErr K "NoLetter")) (.ref (cErr K "LeftError")) = some true
  kn_NoFeed : PySem.W.kitOne K (.type "NoneType") (.ref (cErr K "NoFeed")) = some false
  kn_NoLetter : PySem.W.kitOne K (.type "NoneType") (.ref (cErr K "NoLetter")) = some false
  kn_NoMany : PySem.W.kitOne K (.type "NoneType") (.ref (cErr K "NoMany")) = some false
  kn_NoName : PySem.W.kitOne K (.type "NoneType") (.ref (cErr K "NoName")) = some false
  kn_NoTally : PySem.W.kitOne K (.type "NoneType") (.ref (cErr K "NoTally")) = some false
  kn_NoText : PySem.W.kitOne K (.type "NoneType") (.ref (cErr K "NoText")) = some false
  kn_NoLetters : PySem.W.kitOne K (.type "NoneType") (.ref (cErr K "NoLetters")) = some false
  nk_Letters : NotLt K c_Letters
  ns_Letters : NotLs K c_Letters
  ne_Letters : PySem.W.findIn K (.ref c_Letters) "__ne__" = some (some (.builtin "object.__ne__"))
  kn_Letters___init___1_names : ∃ g, KBn K d_Letters___init__ ["self", "names"] 1 ["names"] g (fun vs zs => vs ++ perm [0] zs)
  km_Letters_rank_name : KwM K d_Letters_rank ["self", "name"] ["name"] [0]
  kb_is_letter_thing : KwB K d_is_letter ["thing"] ["thing"] [0]

section
variable {P : Program} {w : World} {K : Fg} {mg : Str → Option Value} {base : Heap}
theorem Tx.cl_Letters (T : Tx K mg) : Cls K T.c_Letters := T.rc_Letters.i.cl
theorem der_NoLetter___init__ (T : Tx K mg) {cdv : Value} {A : Around} {outer : List Env} {s : Shared} {H : Hp} {E : XK} (hr : Room 0 (A.deeper (envOfC "NoLetter.__init__" (defScope s_NoLetter___init__) s.heap.objs.size T.f_NoLetter___init__ cdv))) :
    PSs (cxOf CX0 P w K mg base n_NoLetter___init__ "NoLetter.__init__" (defScope s_NoLetter___init__) T.f_NoLetter___init__ cdv A outer s H E).nox (defBody s_NoLetter___init__) (t_NoLetter___init__ K) :=
  have nd := sc_NoLetter___init__.nd
  (pss_one (ps_ost (pv 0) (pv 1)))
theorem ok_NoLetter___init__ (T : Tx K mg) : FnOk P w K mg base CX0 1 T.f_NoLetter___init__ T.d_NoLetter___init__ ["self", "name"] (sp_NoLetter___init__ K) :=
  T.F_NoLetter___init__.ok sc_NoLetter___init__ (fun vs H Q E h => len_NoLetter___init__ h) (fun cdv A outer s H vs Q E hr h => ⟨t_NoLetter___init__ K, der_NoLetter___init__ T hr, rd_NoLetter___init__ T.ri_NoLetter T.xo_NoLetter_name h⟩)
theorem der_is_letter (T : Tx K mg) {cdv : Value} {A : Around} {outer : List Env} {s : Shared} {H : Hp} {E : XK} (hr : Room 0 (A.deeper (envOfC "is_letter" (defScope s_is_letter) s.heap.objs.size T.f_is_letter cdv))) :
    PSs (cxOf CX0 P w K mg base n_is_letter "is_letter" (defScope s_is_letter) T.f_is_letter cdv A outer s H E).nox (defBody s_is_letter) (t_is_letter K) :=
  have nd := sc_is_letter.nd
  (pss_cons (ps_if (PW.pt (pw_or (pt_not (pt_val (pe_callB call_isi (by rfl) T.m_isinstance (by decide +kernel) (pa_cons (pv 0) (pa_cons (pe_bltn (by rfl) T.m_str (by decide +kernel) rfl) pa_nil))))) (pw_or1 (pt_not (pt_chain op_le op_le pe_int (pe_callB cr_lenS (by rfl) T.m_len (by decide +kernel) (pa_cons (pv 0) pa_nil)) pe_int))))) (pss_one (ps_ret pe_bl)) pss_nil)
  (pss_one (ps_ret (pe_callB (cr_all rfl) (by rfl) T.m_all (by decide +kernel) (pa_cons (pe_lc (own := [("sign", 1)]) rfl nd (pi_str (pv 0)) (blkOk_by (own := [("sign", 1)]) (N := n_is_letter) (sc := defScope s_is_letter) (by decide +kernel)) (fun _ _ _ _ _ => (pg_name (i := 1) nd rfl (by first | exact Or.inl rfl | exact Or.inr rfl))) (fun _ _ _ _ _ => pts_nil) (fun _ _ _ _ _ => (pe_cmpR op_in_str (pv 1) pe_str rfl))) pa_nil)))))
theorem ok_is_letter (T : Tx K mg) : FnOk P w K mg base CX0 1 T.f_is_letter T.d_is_letter ["thing"] (sp_is_letter K) :=
  T.F_is_letter.ok sc_is_letter (fun vs H Q E h => len_is_letter h) (fun cdv A outer s H vs Q E hr h => ⟨t_is_letter K, der_is_letter T hr, rd_is_letter h⟩)
theorem der_Letters___init__ (T : Tx K mg) {cdv : Value} {A : Around} {outer : List Env} {s : Shared} {H : Hp} {E : XK} (hr : Room 1 (A.deeper (envOfC "Letters.__init__" (defScope s_Letters___init__) s.heap.objs.size T.f_Letters___init__ cdv))) :
    PSs (cxOf (L2.CX P w) P w K mg base n_Letters___init__ "Letters.__init__" (defScope s_Letters___init__) T.f_Letters___init__ cdv A outer s H E) (defBody s_Letters___init__) (t_Letters___init__ K T.c_Letters E) :=
  have nd := sc_Letters___init__.nd
  (pss_cons (ps_if (PW.pt (pw_or (pt_not (pt_val (pe_callB call_isiT (by rfl) T.m_isinstance (by decide +kernel) (pa_cons (pv 1) (pa_cons (pe_tup (pa_cons (pe_bltn (by rfl) T.m_list (by decide +kernel) rfl) (pa_cons (pe_bltn (by rfl) T.m_tuple (by decide +kernel) rfl) pa_nil))) pa_nil))))) (pw_or1 (pt_not (pt_chain op_le op_le pe_int (pe_callB cr_len (by rfl) T.m_len (by decide +kernel) (pa_cons (pv 1) pa_nil)) pe_int))))) (pss_one (BX.ps_raiseO T.rc_NoLetters T.g_NoLetters rfl rfl rfl rfl rfl (by rfl))) pss_nil)
  (pss_cons (ps_if (PW.pt (pw_or (pt_not (pt_val (pe_callB (cr_all rfl) (by rfl) T.m_all (by decide +kernel) (pa_cons (pe_lc (own := [("name", 2)]) rfl nd (BY.pi_seq (pv 1)) (blkOk_by (own := [("name", 2)]) (N := n_Letters___init__) (sc := defScope s_Letters___init__) (by decide +kernel)) (fun _ _ _ _ _ => (pg_name (i := 2) nd rfl (by first | exact Or.inl rfl | exact Or.inr rfl))) (fun _ _ _ _ _ => pts_nil) (fun _ _ _ _ _ => (pe_call (ok_is_letter T) (hr.mono (by decide)) (by rfl) T.g_is_letter T.F_is_letter.kp T.b_is_letter .nil pass0 (pa_cons (pv 2) pa_nil)))) pa_nil)))) (pw_or1 (pt_cmpR op_lt (BY.pe_lenSetX (by rfl) T.m_len (by rfl) T.m_set (pv 1)) (pe_callB cr_len (by rfl) T.m_len (by decide +kernel) (pa_cons (pv 1) pa_nil)) (nomark _))))) (pss_one (BX.ps_raiseO T.rc_NoLetters T.g_NoLetters rfl rfl rfl rfl rfl (by rfl))) pss_nil)
  (pss_one (ps_fld (pv 0) (pe_dc (own := [("at", 3), ("name", 2)]) rfl nd (BY.pi_enumSeq rfl T.m_enumerate (pa_cons (pv 1) pa_nil)) (blkOk_by (own := [("at", 3), ("name", 2)]) (N := n_Letters___init__) (sc := defScope s_Letters___init__) (by decide +kernel)) (fun _ _ _ _ _ => (pg_tup rfl (pgs_cons (pg_name (i := 3) nd rfl (by first | exact Or.inl rfl | exact Or.inr rfl)) (pgs_cons (pg_name (i := 2) nd rfl (by first | exact Or.inl rfl | exact Or.inr rfl)) pgs_nil)))) (fun _ _ _ _ _ => pts_nil) (fun _ _ _ _ _ => (pv 2)) (fun _ _ _ _ _ => (pv 3))) rfl))))
theorem ok_Letters___init__ (T : Tx K mg) : FnOk P w K mg base (L2.CX P w) 2 T.f_Letters___init__ T.d_Letters___init__ ["self", "names"] (sp_Letters___init__ K T.c_Letters) :=
  T.F_Letters___init__.okX sc_Letters___init__ (fun vs H Q E h => len_Letters___init__ h) (fun cdv A outer s H vs Q E hr h => ⟨t_Letters___init__ K T.c_Letters E, der_Letters___init__ T hr, rd_Letters___init__ T.rc_Letters h⟩)
theorem der_Letters___len__ (T : Tx K mg) {cdv : Value} {A : Around} {outer : List Env} {s : Shared} {H : Hp} {E : XK} (hr : Room 0 (A.deeper (envOfC "Letters.__len__" (defScope s_Letters___len__) s.heap.objs.size T.f_Letters___len__ cdv))) :
    PSs (cxOf CX0 P w K mg base n_Letters___len__ "Letters.__len__" (defScope s_Letters___len__) T.f_Letters___len__ cdv A outer s H E).nox (defBody s_Letters___len__) (t_Letters___len__ K T.c_Letters) :=
  have nd := sc_Letters___len__.nd
  (pss_one (ps_ret (pe_callB cr_lenD (by rfl) T.m_len (by decide +kernel) (pa_cons (pe_fld (pv 0) rfl) pa_nil))))
theorem ok_Letters___len__ (T : Tx K mg) : FnOk P w K mg base CX0 1 T.f_Letters___len__ T.d_Letters___len__ ["self"] (sp_Letters___len__ K T.c_Letters) :=
  T.F_Letters___len__.ok sc_Letters___len__ (fun vs H Q E h => len_Letters___len__ h) (fun cdv A outer s H vs Q E hr h => ⟨t_Letters___len__ K T.c_Letters, der_Letters___len__ T hr, rd_Letters___len__ T.rc_Letters h⟩)
theorem der_Letters_ranked (T : Tx K mg) {cdv : Value} {A : Around} {outer : List Env} {s : Shared} {H : Hp} {E : XK} (hr : Room 0 (A.deeper (envOfC "Letters.ranked" (defScope s_Letters_ranked) s.heap.objs.size T.f_Letters_ranked cdv))) :
    PSs (cxOf CX0 P w K mg base n_Letters_ranked "Letters.ranked" (defScope s_Letters_ranked) T.f_Letters_ranked cdv A outer s H E).nox (defBody s_Letters_ranked) (t_Letters_ranked K T.c_Letters) :=
  have nd := sc_Letters_ranked.nd
  (pss_one (ps_ret (pe_callTy (call_list_dK rfl) (by rfl) T.m_list (by decide +kernel) (pa_cons (pe_fld (pv 0) rfl) pa_nil))))
theorem ok_Letters_ranked (T : Tx K mg) : FnOk P w K mg base CX0 1 T.f_Letters_ranked T.d_Letters_ranked ["self"] (sp_Letters_ranked K T.c_Letters) :=
  T.F_Letters_ranked.ok sc_Letters_ranked (fun vs H Q E h => len_Letters_ranked h) (fun cdv A outer s H vs Q E hr h => ⟨t_Letters_ranked K T.c_Letters, der_Letters_ranked T hr, rd_Letters_ranked T.rc_Letters h⟩)
theorem der_Letters___eq__ (T : Tx K mg) {cdv : Value} {A : Around} {outer : List Env} {s : Shared} {H : Hp} {E : XK} (hr : Room 1 (A.deeper (envOfC "Letters.__eq__" (defScope s_Letters___eq__) s.heap.objs.size T.f_Letters___eq__ cdv))) :
    PSs (cxOf CX0 P w K mg base n_Letters___eq__ "Letters.__eq__" (defScope s_Letters___eq__) T.f_Letters___eq__ cdv A outer s H E).nox (defBody s_Letters___eq__) (t_Letters___eq__ K T.c_Letters) :=
  have nd := sc_Letters___eq__.nd
  (pss_one (ps_ret (pe_and (pe_callB call_isi (by rfl) T.m_isinstance (by decide +kernel) (pa_cons (pv 1) (pa_cons (pe_glob (by rfl) T.g_Letters rfl) pa_nil))) (pe_one (pe_cmpR (op_eqT hr.units) (pe_meth0 (pv 0) T.cl_Letters T.M_Letters_ranked (ok_Letters_ranked T) (hr.mono (by decide)) T.b_Letters_ranked .nil pass0) (pe_meth0 (pv 1) T.cl_Letters T.M_Letters_ranked (ok_Letters_ranked T) (hr.mono (by decide)) T.b_Letters_ranked .nil pass0) (nomark _))))))
theorem ok_Letters___eq__ (T : Tx K mg) : FnOk P w K mg base CX0 2 T.f_Letters___eq__ T.d_Letters___eq__ ["self", "other"] (sp_Letters___eq__ K T.c_Letters) :=
  T.F_Letters___eq__.ok sc_Letters___eq__ (fun vs H Q E h => len_Letters___eq__ h) (fun cdv A outer s H vs Q E hr h => ⟨t_Letters___eq__ K T.c_Letters, der_Letters___eq__ T hr, rd_Letters___eq__ T.rc_Letters h⟩)
theorem der_Letters_names (T : Tx K mg) {cdv : Value} {A : Around} {outer : List Env} {s : Shared} {H : Hp} {E : XK} (hr : Room 0 (A.deeper (envOfC "Letters.names" (defScope s_Letters_names) s.heap.objs.size T.f_Letters_names cdv))) :
    PSs (cxOf CX0 P w K mg base n_Letters_names "Letters.names" (defScope s_Letters_names) T.f_Letters_names cdv A outer s H E).nox (defBody s_Letters_names) (t_Letters_names K T.c_Letters) :=
  have nd := sc_Letters_names.nd
  (pss_one (ps_ret (pe_callB cr_sortedDS (by rfl) T.m_sorted (by decide +kernel) (pa_cons (pe_fld (pv 0) rfl) pa_nil))))
theorem ok_Letters_names (T : Tx K mg) : FnOk P w K mg base CX0 1 T.f_Letters_names T.d_Letters_names ["self"] (sp_Letters_names K T.c_Letters) :=
  T.F_Letters_names.ok sc_Letters_names (fun vs H Q E h => len_Letters_names h) (fun cdv A outer s H vs Q E hr h => ⟨t_Letters_names K T.c_Letters, der_Letters_names T hr, rd_Letters_names T.rc_Letters h⟩)
theorem der_Letters_has (T : Tx K mg) {cdv : Value} {A : Around} {outer : List Env} {s : Shared} {H : Hp} {E : XK} (hr : Room 1 (A.deeper (envOfC "Letters.has" (defScope s_Letters_has) s.heap.objs.size T.f_Letters_has cdv))) :
    PSs (cxOf CX0 P w K mg base n_Letters_has "Letters.has" (defScope s_Letters_has) T.f_Letters_has cdv A outer s H E).nox (defBody s_Letters_has) (t_Letters_has K T.c_Letters) :=
  have nd := sc_Letters_has.nd
  (pss_one (ps_ret (pe_and (pe_call (ok_is_letter T) (hr.mono (by decide)) (by rfl) T.g_is_letter T.F_is_letter.kp T.b_is_letter .nil pass0 (pa_cons (pv 1) pa_nil)) (pe_one (pe_cmp (pc_din (hu_of hr) (pv 1) (pe_fld (pv 0) rfl)))))))
theorem ok_Letters_has (T : Tx K mg) : FnOk P w K mg base CX0 2 T.f_Letters_has T.d_Letters_has ["self", "thing"] (sp_Letters_has K T.c_Letters) :=
  T.F_Letters_has.ok sc_Letters_has (fun vs H Q E h => len_Letters_has h) (fun cdv A outer s H vs Q E hr h => ⟨t_Letters_has K T.c_Letters, der_Letters_has T hr, rd_Letters_has T.rc_Letters h⟩)
theorem der_Letters_rank (T : Tx K mg) {cdv : Value} {A : Around} {outer : List Env} {s : Shared} {H : Hp} {E : XK} (hr : Room 2 (A.deeper (envOfC "Letters.rank" (defScope s_Letters_rank) s.heap.objs.size T.f_Letters_rank cdv))) :
    PSs (cxOf (L2.CX P w) P w K mg base n_Letters_rank "Letters.rank" (defScope s_Letters_rank) T.f_Letters_rank cdv A outer s H E) (defBody s_Letters_rank) (t_Letters_rank K T.c_Letters E) :=
  have nd := sc_Letters_rank.nd
  (pss_cons (ps_if (pt_not (pt_val (pe_meth (pv 0) T.cl_Letters T.M_Letters_has (ok_Letters_has T) (hr.mono (by decide)) T.b_Letters_has .nil pass0 (pa_cons (pv 1) pa_nil)))) (pss_one (BE.ps_raiseI T.ri_NoLetter T.ii_NoLetter T.ti_NoLetter (ok_NoLetter___init__ T) pass0 (hr.mono (by decide)) T.b_NoLetter___init__ (by rfl) T.g_NoLetter (pa_cons (pv 1) pa_nil) rfl rfl rfl rfl rfl)) pss_nil)
  (pss_one (ps_ret (pe_dget (hu_of hr) (pe_fld (pv 0) rfl) (pv 1) (fun _ _ => rfl)))))
theorem ok_Letters_rank (T : Tx K mg) : FnOk P w K mg base (L2.CX P w) 3 T.f_Letters_rank T.d_Letters_rank ["self", "name"] (sp_Letters_rank K T.c_Letters) :=
  T.F_Letters_rank.okX sc_Letters_rank (fun vs H Q E h => len_Letters_rank h) (fun cdv A outer s H vs Q E hr h => ⟨t_Letters_rank K T.c_Letters E, der_Letters_rank T hr, rd_Letters_rank T.rc_Letters h⟩)
theorem der__law_begun (T : Tx K mg) {cdv : Value} {A : Around} {outer : List Env} {s : Shared} {H : Hp} {E : XK} (hr : Room 0 (A.deeper (envOfC "_law_begun" (defScope s__law_begun) s.heap.objs.size T.f__law_begun cdv))) :
    PSs (cxOf CX0 P w K mg base n__law_begun "_law_begun" (defScope s__law_begun) T.f__law_begun cdv A outer s H E).nox (defBody s__law_begun) (t__law_begun K) :=
  have nd := sc__law_begun.nd
  (pss_cons (ps_setLc (i := 1) (own := [("_law_cell", 2)]) rfl nd rfl rfl (sw_true rfl rfl rfl (by decide +kernel)) (pi_list (pv 0)) (blkOk_by (own := [("_law_cell", 2)]) (N := n__law_begun) (sc := defScope s__law_begun) (by decide +kernel)) (fun _ _ _ _ _ => (pg_name (i := 2) nd rfl (by first | exact Or.inl rfl | exact Or.inr rfl))) (fun _ _ _ _ _ => pts_nil) (fun _ _ _ _ _ => (pe_callB cr_abs (by rfl) T.m_abs (by decide +kernel) (pa_cons (pv 2) pa_nil))))
  (pss_cons (ps_if (pt_cmpR (op_eqT hr.units) (pv 1) (pe_lst pa_nil) (nomark _)) (pss_one (ps_set (i := 1) nd rfl (Or.inl rfl) (pe_lst (pa_cons pe_int pa_nil)))) pss_nil)
  (pss_one (ps_ret (pe_lst (pa_cons (pv 1) (pa_cons pe_int (pa_cons pe_int pa_nil))))))))
theorem ok__law_begun (T : Tx K mg) : FnOk P w K mg base CX0 1 T.f__law_begun T.d__law_begun ["_law_script"] (sp__law_begun K) :=
  T.F__law_begun.ok sc__law_begun (fun vs H Q E h => len__law_begun h) (fun cdv A outer s H vs Q E hr h => ⟨t__law_begun K, der__law_begun T hr, rd__law_begun h⟩)
theorem der__law_draw (T : Tx K mg) {cdv : Value} {A : Around} {outer : List Env} {s : Shared} {H : Hp} {E : XK} (hr : Room 0 (A.deeper (envOfC "_law_draw" (defScope s__law_draw) s.heap.objs.size T.f__law_draw cdv))) :
    PSs (cxOf CX0 P w K mg base n__law_draw "_law_draw" (defScope s__law_draw) T.f__law_draw cdv A outer s H E).nox (defBody s__law_draw) (t__law_draw K) :=
  have nd := sc__law_draw.nd
  (pss_cons (ps_set (i := 2) nd rfl (Or.inl rfl) (pe_ix ix_list (pv 0) pe_int (fun _ _ => rfl)))
  (pss_cons (ps_set (i := 3) nd rfl (Or.inl rfl) (pe_op op_mod (pe_ix ix_list (pv 0) pe_int (fun _ _ => rfl)) (pe_callB cr_len (by rfl) T.m_len (by decide +kernel) (pa_cons (pv 2) pa_nil))))
  (pss_cons (ps_set (i := 4) nd rfl (Or.inl rfl) (pe_ix ix_list (pv 2) (pv 3) (fun _ _ => rfl)))
  (pss_cons (ps_if (pt_cmpR op_ge (pv 4) (pe_op op_pow pe_int pe_int) (nomark _)) (pss_cons (ps_asg (pe_op op_fdiv (pv 4) (pv 1)) (pg_sub (pv 2) (pv 3) set_list))
  (pss_one (ps_ret (pe_op op_mod (pv 4) (pv 1))))) pss_nil)
  (pss_cons (ps_asg (pe_op op_add (pe_ix ix_list (pv 0) pe_int (fun _ _ => rfl)) pe_int) (pg_sub (pv 0) pe_int set_list))
  (pss_cons (ps_asg (pe_op op_mod (pe_op op_add (pe_op op_add (pe_op op_mul (pe_ix ix_list (pv 0) pe_int (fun _ _ => rfl)) pe_int) (pv 4)) pe_int) pe_int) (pg_sub (pv 0) pe_int set_list))
  (pss_one (ps_ret (pe_op op_mod (pe_op op_fdiv (pe_op op_mod (pe_op op_mul (pe_ix ix_list (pv 0) pe_int (fun _ _ => rfl)) (pe_ix ix_list (pv 0) pe_int (fun _ _ => rfl))) pe_int) pe_int) (pv 1))))))))))
theorem ok__law_draw (T : Tx K mg) : FnOk P w K mg base CX0 1 T.f__law_draw T.d__law_draw ["_law_state", "_law_many"] (sp__law_draw K) :=
  T.F__law_draw.ok sc__law_draw (fun vs H Q E h => len__law_draw h) (fun cdv A outer s H vs Q E hr h => ⟨t__law_draw K, der__law_draw T hr, rd__law_draw h⟩)
theorem der__law_pick (T : Tx K mg) {cdv : Value} {A : Around} {outer : List Env} {s : Shared} {H : Hp} {E : XK} (hr : Room 1 (A.deeper (envOfC "_law_pick" (defScope s__law_pick) s.heap.objs.size T.f__law_pick cdv))) :
    PSs (cxOf CX0 P w K mg base n__law_pick "_law_pick" (defScope s__law_pick) T.f__law_pick cdv A outer s H E).nox (defBody s__law_pick) (t__law_pick K) :=
  have nd := sc__law_pick.nd
  (pss_one (ps_ret (pe_ix ix_list (pv 1) (pe_call (ok__law_draw T) (hr.mono (by decide)) (by rfl) T.g__law_draw T.F__law_draw.kp T.b__law_draw .nil pass0 (pa_cons (pv 0) (pa_cons (pe_callB cr_len (by rfl) T.m_len (by decide +kernel) (pa_cons (pv 1) pa_nil)) pa_nil))) (fun _ _ => rfl))))
theorem ok__law_pick (T : Tx K mg) : FnOk P w K mg base CX0 2 T.f__law_pick T.d__law_pick ["_law_state", "_law_some"] (sp__law_pick K) :=
  T.F__law_pick.ok sc__law_pick (fun vs H Q E h => len__law_pick h) (fun cdv A outer s H vs Q E hr h => ⟨t__law_pick K, der__law_pick T hr, rd__law_pick h⟩)
theorem der__law_names (T : Tx K mg) {cdv : Value} {A : Around} {outer : List Env} {s : Shared} {H : Hp} {E : XK} (hr : Room 2 (A.deeper (envOfC "_law_names" (defScope s__law_names) s.heap.objs.size T.f__law_names cdv))) :
    PSs (cxOf CX0 P w K mg base n__law_names "_law_names" (defScope s__law_names) T.f__law_names cdv A outer s H E).nox (defBody s__law_names) (t__law_names K) :=
  have nd := sc__law_names.nd
  (pss_cons (ps_set (i := 2) nd rfl (Or.inl rfl) (pe_split pe_str pe_str))
  (pss_cons (ps_set (i := 3) nd rfl (Or.inr rfl) (pe_lst pa_nil))
  (pss_cons (ps_for PassesOwn.never rfl (pi_range1 rfl T.m_range (pa_cons (pv 1) pa_nil)) (pg_name (i := 4) nd rfl (by first | exact Or.inl rfl | exact Or.inr rfl))
  (pss_cons (ps_set (i := 5) nd rfl (Or.inr rfl) (pe_call (ok__law_pick T) (hr.mono (by decide)) (by rfl) T.g__law_pick T.F__law_pick.kp T.b__law_pick .nil pass0 (pa_cons (pv 0) (pa_cons (pv 2) pa_nil))))
  (pss_cons (ps_if (pt_cmpR op_gt (pe_call (ok__law_draw T) (hr.mono (by decide)) (by rfl) T.g__law_draw T.F__law_draw.kp T.b__law_draw .nil pass0 (pa_cons (pv 0) (pa_cons pe_int pa_nil))) pe_int (nomark _)) (pss_one (ps_set (i := 5) nd rfl (Or.inr rfl) (pe_join pe_str (pe_lc (own := [("_law_j", 6)]) rfl nd (pi_range1 rfl T.m_range (pa_cons (pe_op op_add pe_int (pe_call (ok__law_draw T) (hr.mono (by decide)) (by rfl) T.g__law_draw T.F__law_draw.kp T.b__law_draw .nil pass0 (pa_cons (pv 0) (pa_cons pe_int pa_nil)))) pa_nil)) (blkOk_by (own := [("_law_j", 6)]) (N := n__law_names) (sc := defScope s__law_names) (by decide +kernel)) (fun _ _ _ _ _ => (pg_name (i := 6) nd rfl (by first | exact Or.inl rfl | exact Or.inr rfl))) (fun _ _ _ _ _ => pts_nil) (fun _ _ _ _ _ => (pe_ix ix_str pe_str (pe_call (ok__law_draw T) (hr.mono (by decide)) (by rfl) T.g__law_draw T.F__law_draw.kp T.b__law_draw .nil pass0 (pa_cons (pv 0) (pa_cons pe_int pa_nil))) (fun _ _ => rfl))))))) pss_nil)
  (pss_cons (ps_set (i := 7) nd rfl (Or.inl rfl) (pe_op op_cat (pe_lst (pa_cons (pv 5) pa_nil)) (pe_lc (own := [("_law_sign", 8)]) rfl nd (pi_str pe_str) (blkOk_by (own := [("_law_sign", 8)]) (N := n__law_names) (sc := defScope s__law_names) (by decide +kernel)) (fun _ _ _ _ _ => (pg_name (i := 8) nd rfl (by first | exact Or.inl rfl | exact Or.inr rfl))) (fun _ _ _ _ _ => pts_nil) (fun _ _ _ _ _ => (pe_op op_add_str (pe_slice sl_str (pv 5) po_none (po_some pe_int)) (pv 8))))))
  (pss_one (ps_expr (pe_bm PySem.F.plainAttrs_list PySem.F.slot_list_append PySem.F.type_list_append mt_append (pv 3) (pa_cons (pe_ix ix_list (pe_lc (own := [("_law_one", 9)]) rfl nd (pi_list (pv 7)) (blkOk_by (own := [("_law_one", 9)]) (N := n__law_names) (sc := defScope s__law_names) (by decide +kernel)) (fun _ _ _ _ _ => (pg_name (i := 9) nd rfl (by first | exact Or.inl rfl | exact Or.inr rfl))) (fun _ _ _ _ _ => (pts_one (pt_cmpR (op_notInTL hr.units) (pv 9) (pv 3) rfl))) (fun _ _ _ _ _ => (pv 9))) pe_int (fun _ _ => rfl)) pa_nil))))))))
  (pss_one (ps_ret (pv 3))))))
theorem ok__law_names (T : Tx K mg) : FnOk P w K mg base CX0 3 T.f__law_names T.d__law_names ["_law_state", "_law_many"] (sp__law_names K) :=
  T.F__law_names.ok sc__law_names (fun vs H Q E h => len__law_names h) (fun cdv A outer s H vs Q E hr h => ⟨t__law_names K, der__law_names T hr, rd__law_names h⟩)
theorem der__law_is_letter (T : Tx K mg) {cdv : Value} {A : Around} {outer : List Env} {s : Shared} {H : Hp} {E : XK} (hr : Room 0 (A.deeper (envOfC "_law_is_letter" (defScope s__law_is_letter) s.heap.objs.size T.f__law_is_letter cdv))) :
    PSs (cxOf CX0 P w K mg base n__law_is_letter "_law_is_letter" (defScope s__law_is_letter) T.f__law_is_letter cdv A outer s H E).nox (defBody s__law_is_letter) (t__law_is_letter K) :=
  have nd := sc__law_is_letter.nd
  (pss_cons (ps_if (PW.pt (pw_or (pt_not (pt_val (pe_callB call_isi (by rfl) T.m_isinstance (by decide +kernel) (pa_cons (pv 0) (pa_cons (pe_bltn (by rfl) T.m_str (by decide +kernel) rfl) pa_nil))))) (pw_or1 (pt_not (pt_chain op_lt op_lt pe_int (pe_callB cr_lenS (by rfl) T.m_len (by decide +kernel) (pa_cons (pv 0) pa_nil)) pe_int))))) (pss_one (ps_ret pe_bl)) pss_nil)
  (pss_one (ps_ret (pe_cmpR (op_eqT hr.units) (pe_lc (own := [("_law_sign", 1)]) rfl nd (pi_str (pv 0)) (blkOk_by (own := [("_law_sign", 1)]) (N := n__law_is_letter) (sc := defScope s__law_is_letter) (by decide +kernel)) (fun _ _ _ _ _ => (pg_name (i := 1) nd rfl (by first | exact Or.inl rfl | exact Or.inr rfl))) (fun _ _ _ _ _ => (pts_one (pt_cmpR op_notInS (pv 1) pe_str rfl))) (fun _ _ _ _ _ => (pv 1))) (pe_lst pa_nil) (nomark _)))))
theorem ok__law_is_letter (T : Tx K mg) : FnOk P w K mg base CX0 1 T.f__law_is_letter T.d__law_is_letter ["_law_matter"] (sp__law_is_letter K) :=
  T.F__law_is_letter.ok sc__law_is_letter (fun vs H Q E h => len__law_is_letter h) (fun cdv A outer s H vs Q E hr h => ⟨t__law_is_letter K, der__law_is_letter T hr, rd__law_is_letter h⟩)
theorem der__law_odd (T : Tx K mg) {cdv : Value} {A : Around} {outer : List Env} {s : Shared} {H : Hp} {E : XK} (hr : Room 2 (A.deeper (envOfC "_law_odd" (defScope s__law_odd) s.heap.objs.size T.f__law_odd cdv))) :
    PSs (cxOf CX0 P w K mg base n__law_odd "_law_odd" (defScope s__law_odd) T.f__law_odd cdv A outer s H E).nox (defBody s__law_odd) (t__law_odd K) :=
  have nd := sc__law_odd.nd
  (pss_cons (ps_set (i := 2) nd rfl (Or.inl rfl) (pe_lst (pa_cons pe_str (pa_cons (pe_op op_add_str (pv 1) pe_str) (pa_cons (pe_slice sl_str (pv 1) (po_some pe_int) po_none) (pa_cons (pe_upper (pv 1)) (pa_cons (pe_op op_add_str (pv 1) pe_str) (pa_cons (pe_op op_mulS (pv 1) pe_int) (pa_cons (pe_op op_add_str pe_str (pv 1)) (pa_cons pe_non (pa_cons pe_int (pa_cons pe_bl (pa_cons (pe_tup (pa_cons (pv 1) pa_nil)) (pa_cons (pe_lst (pa_cons (pv 1) pa_nil)) pa_nil))))))))))))))
  (pss_one (ps_ret (pe_call (ok__law_pick T) (hr.mono (by decide)) (by rfl) T.g__law_pick T.F__law_pick.kp T.b__law_pick .nil pass0 (pa_cons (pv 0) (pa_cons (pe_op op_cat (pv 2) (pe_lst (pa_cons (pe_op op_add_str (pe_slice sl_str (pv 1) po_none (po_some pe_int)) pe_str) (pa_cons pe_dnewK (pa_cons (pe_strStep (pv 1) BY.pc_none BY.pc_none BY.pc_neg (by decide) (by decide)) (pa_cons pe_str (pa_cons pe_str (pa_cons pe_str pa_nil)))))))) pa_nil))))))
theorem ok__law_odd (T : Tx K mg) : FnOk P w K mg base CX0 3 T.f__law_odd T.d__law_odd ["_law_state", "_law_word"] (sp__law_odd K) :=
  T.F__law_odd.ok sc__law_odd (fun vs H Q E h => len__law_odd h) (fun cdv A outer s H vs Q E hr h => ⟨t__law_odd K, der__law_odd T hr, rd__law_odd h⟩)
theorem der__law_bent (T : Tx K mg) {cdv : Value} {A : Around} {outer : List Env} {s : Shared} {H : Hp} {E : XK} (hr : Room 3 (A.deeper (envOfC "_law_bent" (defScope s__law_bent) s.heap.objs.size T.f__law_bent cdv))) :
    PSs (cxOf CX0 P w K mg base n__law_bent "_law_bent" (defScope s__law_bent) T.f__law_bent cdv A outer s H E).nox (defBody s__law_bent) (t__law_bent K) :=
  have nd := sc__law_bent.nd
  (pss_cons (ps_par (i := 2) (j := 3) rfl nd rfl rfl (by decide) rfl rfl (pa_cons (pe_call (ok__law_draw T) (hr.mono (by decide)) (by rfl) T.g__law_draw T.F__law_draw.kp T.b__law_draw .nil pass0 (pa_cons (pv 0) (pa_cons pe_int pa_nil))) (pa_cons (pe_call (ok__law_draw T) (hr.mono (by decide)) (by rfl) T.g__law_draw T.F__law_draw.kp T.b__law_draw .nil pass0 (pa_cons (pv 0) (pa_cons (pe_callB cr_len (by rfl) T.m_len (by decide +kernel) (pa_cons (pv 1) pa_nil)) pa_nil))) pa_nil)) (by rfl))
  (pss_cons (ps_if (pt_cmpR op_eq (pv 2) pe_int (nomark _)) (pss_one (ps_ret (pe_op op_cat (pv 1) (pe_slice sl_list (pv 1) (po_some (pv 3)) (po_some (pe_op op_add (pv 3) pe_int)))))) pss_nil)
  (pss_cons (ps_if (pt_cmpR op_lt (pv 2) pe_int (nomark _)) (pss_one (ps_ret (pe_op op_cat (pe_op op_cat (pe_slice sl_list (pv 1) po_none (po_some (pv 3))) (pe_lst (pa_cons (pe_call (ok__law_odd T) (hr.mono (by decide)) (by rfl) T.g__law_odd T.F__law_odd.kp T.b__law_odd .nil pass0 (pa_cons (pv 0) (pa_cons (pe_ix ix_list (pv 1) (pv 3) (fun _ _ => rfl)) pa_nil))) pa_nil))) (pe_slice sl_list (pv 1) (po_some (pe_op op_add (pv 3) pe_int)) po_none)))) pss_nil)
  (pss_cons (ps_if (pt_cmpR op_eq (pv 2) pe_int (nomark _)) (pss_one (ps_ret (pe_call (ok__law_pick T) (hr.mono (by decide)) (by rfl) T.g__law_pick T.F__law_pick.kp T.b__law_pick .nil pass0 (pa_cons (pv 0) (pa_cons (pe_lst (pa_cons pe_non (pa_cons pe_dnewK (pa_cons (pe_lst pa_nil) (pa_cons (pe_tup pa_nil) (pa_cons (pe_ix ix_list (pv 1) pe_int (fun _ _ => rfl)) (pa_cons pe_int (pa_cons pe_bl (pa_cons (pe_disp (pps_cons (pe_ix ix_list (pv 1) pe_int (fun _ _ => rfl)) pe_int pps_nil) (by rfl) (by rfl) (fun z => by cases z) (by decide)) (pa_cons (pe_lst (pa_cons (pv 1) pa_nil)) (pa_cons (pe_lst (pa_cons pe_non pa_nil)) (pa_cons (pe_lst (pa_cons pe_str (pa_cons (pe_lst (pa_cons pe_str pa_nil)) pa_nil))) pa_nil)))))))))))) pa_nil))))) pss_nil)
  (pss_one (ps_ret (pe_ifExp (pt_cmpR op_eq (pv 2) pe_int (nomark _)) (pe_callTy cr_tupleO (by rfl) T.m_tuple (by decide +kernel) (pa_cons (pv 1) pa_nil)) (pv 1))))))))
theorem ok__law_bent (T : Tx K mg) : FnOk P w K mg base CX0 4 T.f__law_bent T.d__law_bent ["_law_state", "_law_words"] (sp__law_bent K) :=
  T.F__law_bent.ok sc__law_bent (fun vs H Q E h => len__law_bent h) (fun cdv A outer s H vs Q E hr h => ⟨t__law_bent K, der__law_bent T hr, rd__law_bent h⟩)
theorem der__law_are_letters (T : Tx K mg) {cdv : Value} {A : Around} {outer : List Env} {s : Shared} {H : Hp} {E : XK} (hr : Room 1 (A.deeper (envOfC "_law_are_letters" (defScope s__law_are_letters) s.heap.objs.size T.f__law_are_letters cdv))) :
    PSs (cxOf CX0 P w K mg base n__law_are_letters "_law_are_letters" (defScope s__law_are_letters) T.f__law_are_letters cdv A outer s H E).nox (defBody s__law_are_letters) (t__law_are_letters K) :=
  have nd := sc__law_are_letters.nd
  (pss_cons (ps_if (PW.pt (pw_or (pt_not (pt_val (pe_callB call_isiT (by rfl) T.m_isinstance (by decide +kernel) (pa_cons (pv 0) (pa_cons (pe_tup (pa_cons (pe_bltn (by rfl) T.m_list (by decide +kernel) rfl) (pa_cons (pe_bltn (by rfl) T.m_tuple (by decide +kernel) rfl) pa_nil))) pa_nil))))) (pw_or1 (pt_not (pt_chain op_lt op_lt pe_int (pe_callB cr_len (by rfl) T.m_len (by decide +kernel) (pa_cons (pv 0) pa_nil)) pe_int))))) (pss_one (ps_ret pe_bl)) pss_nil)
  (pss_cons (ps_if (pt_cmpR (op_neW hr.units) (pe_lc (own := [("_law_word", 1)]) rfl nd (BY.pi_seq (pv 0)) (blkOk_by (own := [("_law_word", 1)]) (N := n__law_are_letters) (sc := defScope s__law_are_letters) (by decide +kernel)) (fun _ _ _ _ _ => (pg_name (i := 1) nd rfl (by first | exact Or.inl rfl | exact Or.inr rfl))) (fun _ _ _ _ _ => (pts_one (pt_not (pt_val (pe_call (ok__law_is_letter T) (hr.mono (by decide)) (by rfl) T.g__law_is_letter T.F__law_is_letter.kp T.b__law_is_letter .nil pass0 (pa_cons (pv 1) pa_nil)))))) (fun _ _ _ _ _ => (pv 1))) (pe_lst pa_nil) (nomark _)) (pss_one (ps_ret pe_bl)) pss_nil)
  (pss_one (ps_ret (pe_cmpR (op_eqT hr.units) (pe_lc (own := [("_law_at", 2)]) rfl nd (pi_range1 rfl T.m_range (pa_cons (pe_callB cr_len (by rfl) T.m_len (by decide +kernel) (pa_cons (pv 0) pa_nil)) pa_nil)) (blkOk_by (own := [("_law_at", 2)]) (N := n__law_are_letters) (sc := defScope s__law_are_letters) (by decide +kernel)) (fun _ _ _ _ _ => (pg_name (i := 2) nd rfl (by first | exact Or.inl rfl | exact Or.inr rfl))) (fun _ _ _ _ _ => (pts_one (pt_cmpR (op_inTQ hr.units) (pe_ix ix_seq (pv 0) (pv 2) (fun _ _ => rfl)) (pe_slice sl_seqB (pv 0) po_none (po_some (pv 2))) rfl))) (fun _ _ _ _ _ => (pv 2))) (pe_lst pa_nil) (nomark _))))))
theorem ok__law_are_letters (T : Tx K mg) : FnOk P w K mg base CX0 2 T.f__law_are_letters T.d__law_are_letters ["_law_matter"] (sp__law_are_letters K) :=
  T.F__law_are_letters.ok sc__law_are_letters (fun vs H Q E h => len__law_are_letters h) (fun cdv A outer s H vs Q E hr h => ⟨t__law_are_letters K, der__law_are_letters T hr, rd__law_are_letters h⟩)
theorem der__law_rank_refused (T : Tx K mg) {cdv : Value} {A : Around} {outer : List Env} {s : Shared} {H : Hp} {E : XK} (hgd : A.guards = some []) (hr : Room 3 (A.deeper (envOfC "_law_rank_refused" (defScope s__law_rank_refused) s.heap.objs.size T.f__law_rank_refused cdv))) :
    PSs (cxOf CX0 P w K mg base n__law_rank_refused "_law_rank_refused" (defScope s__law_rank_refused) T.f__law_rank_refused cdv A outer s H E).nox (defBody s__law_rank_refused) (t__law_rank_refused K T.c_Letters) :=
  have nd := sc__law_rank_refused.nd
  (pss_cons (ps_set (i := 2) nd rfl (Or.inl rfl) pe_non)
  (pss_cons (BX.ps_try_asK (i := 3) (tb := fun W => (tDrop (tMethTS T.c_Letters "rank" (sp_Letters_rank K T.c_Letters) (WE W) (tVar 0) (tCons (tVar 1) tNil)))) (ts := fun a cls d => (tAsg (tVar 3) (gName 2))) (Wout := fun _ _ _ _ => False) rfl rfl nd rfl rfl ⟨by rfl, by decide, Or.inl T.g_NoLetter⟩ takes0 (fun W pn xe tk _ => (pss_one (ps_expr (pe_methTS (pv 0) T.cl_Letters T.M_Letters_rank (ok_Letters_rank T) (hr.mono (by decide)) T.b_Letters_rank (fun σ => passAt tk σ) (pa_cons (pv 1) pa_nil))))) (fun a oe cls d pn hz hf => (pss_one (ps_set (i := 2) nd rfl (Or.inl rfl) (pv 3)))) rfl)
  (pss_one (ps_ret (pe_and (pe_cmpR op_notN (pv 2) pe_non (nomark _)) (pe_and (pe_callB BE.call_isF (by rfl) T.m_isinstance (by decide +kernel) (pa_cons (pv 2) (pa_cons (pe_glob (by rfl) T.g_LeftError rfl) pa_nil))) (pe_one (pe_cmpR op_eq (pe_callB (cr_reprV hgd hr.units) (by rfl) T.m_repr (by decide +kernel) (pa_cons (pe_xg T.xf_NoLetter T.xo_NoLetter_name (pv 2)) pa_nil)) (pe_callB (cr_reprV hgd hr.units) (by rfl) T.m_repr (by decide +kernel) (pa_cons (pv 1) pa_nil)) (nomark _)))))))))
theorem ok__law_rank_refused (T : Tx K mg) : FnG P w K mg base 4 T.f__law_rank_refused T.d__law_rank_refused ["_law_told", "_law_matter"] (sp__law_rank_refused K T.c_Letters) :=
  okG T.F__law_rank_refused sc__law_rank_refused (fun vs H Q E h => len__law_rank_refused h) (fun cdv A hgd outer s H vs Q E hr h => ⟨t__law_rank_refused K T.c_Letters, der__law_rank_refused T hgd hr, rd__law_rank_refused T.rc_Letters T.kl_NoLetter T.xe_NoLetter T.rf_NoLetter h⟩)
theorem der__law_told_right (T : Tx K mg) {cdv : Value} {A : Around} {outer : List Env} {s : Shared} {H : Hp} {E : XK} (hgd : A.guards = some []) (hr : Room 4 (A.deeper (envOfC "_law_told_right" (defScope s__law_told_right) s.heap.objs.size T.f__law_told_right cdv))) :
    PSs (cxOf CX0 P w K mg base n__law_told_right "_law_told_right" (defScope s__law_told_right) T.f__law_told_right cdv A outer s H E).nox (defBody s__law_told_right) (t__law_told_right K T.c_Letters) :=
  have nd := sc__law_told_right.nd
  (pss_cons (ps_if (PW.pt (pw_or (pt_not (pt_val (pe_callB call_isi (by rfl) T.m_isinstance (by decide +kernel) (pa_cons (pe_meth0 (pv 1) T.cl_Letters T.M_Letters_names (ok_Letters_names T) (hr.mono (by decide)) T.b_Letters_names .nil pass0) (pa_cons (pe_bltn (by rfl) T.m_list (by decide +kernel) rfl) pa_nil))))) (pw_or1 (pt_cmpR (op_neT hr.units) (pe_meth0 (pv 1) T.cl_Letters T.M_Letters_names (ok_Letters_names T) (hr.mono (by decide)) T.b_Letters_names .nil pass0) (pe_callB cr_sortedS (by rfl) T.m_sorted (by decide +kernel) (pa_cons (pv 2) pa_nil)) (nomark _))))) (pss_one (ps_ret pe_bl)) pss_nil)
  (pss_cons (ps_if (PW.pt (pw_or (pt_not (pt_val (pe_callB call_isi (by rfl) T.m_isinstance (by decide +kernel) (pa_cons (pe_meth0 (pv 1) T.cl_Letters T.M_Letters_ranked (ok_Letters_ranked T) (hr.mono (by decide)) T.b_Letters_ranked .nil pass0) (pa_cons (pe_bltn (by rfl) T.m_list (by decide +kernel) rfl) pa_nil))))) (pw_or (pt_cmpR (op_neT hr.units) (pe_meth0 (pv 1) T.cl_Letters T.M_Letters_ranked (ok_Letters_ranked T) (hr.mono (by decide)) T.b_Letters_ranked .nil pass0) (pv 2) (nomark _)) (pw_or1 (pt_cmpR op_ne (pe_callB (call_lenOwn (ok_Letters___len__ T) (hr.mono (by decide)) T.M_Letters___len__ T.b_Letters___len__ pass0) (by rfl) T.m_len (by decide +kernel) (pa_cons (pv 1) pa_nil)) (pe_callB cr_len (by rfl) T.m_len (by decide +kernel) (pa_cons (pv 2) pa_nil)) (nomark _)))))) (pss_one (ps_ret pe_bl)) pss_nil)
  (pss_cons (ps_if (PW.pt (pw_or (pt_cmpR (op_neT hr.units) (pe_lc (own := [("_law_word", 3)]) rfl nd (pi_list (pv 2)) (blkOk_by (own := [("_law_word", 3)]) (N := n__law_told_right) (sc := defScope s__law_told_right) (by decide +kernel)) (fun _ _ _ _ _ => (pg_name (i := 3) nd rfl (by first | exact Or.inl rfl | exact Or.inr rfl))) (fun _ _ _ _ _ => pts_nil) (fun _ _ _ _ _ => (pe_meth (pv 1) T.cl_Letters T.M_Letters_rank (ok_Letters_rank T) (hr.mono (by decide)) T.b_Letters_rank .nil passL (pa_cons (pv 3) pa_nil)))) (pe_listRg rfl (by rfl) T.m_list (prg_1 (by rfl) T.m_range (pe_callB cr_len (by rfl) T.m_len (by decide +kernel) (pa_cons (pv 2) pa_nil)))) (nomark _)) (pw_or1 (pt_cmpR op_ne (pe_methKw (pv 1) T.cl_Letters T.M_Letters_rank (ok_Letters_rank T) (hr.mono (by decide)) T.km_Letters_rank_name passL (pk_cons (pe_ix ix_list (pv 2) (pe_un un_neg pe_int) (fun _ _ => rfl)) pk_nil)) (pe_op op_sub (pe_callB cr_len (by rfl) T.m_len (by decide +kernel) (pa_cons (pv 2) pa_nil)) pe_int) (nomark _))))) (pss_one (ps_ret pe_bl)) pss_nil)
  (pss_cons (ps_set (i := 4) nd rfl (Or.inl rfl) (pe_call (ok__law_odd T) (hr.mono (by decide)) (by rfl) T.g__law_odd T.F__law_odd.kp T.b__law_odd .nil pass0 (pa_cons (pv 0) (pa_cons (pe_call (ok__law_pick T) (hr.mono (by decide)) (by rfl) T.g__law_pick T.F__law_pick.kp T.b__law_pick .nil pass0 (pa_cons (pv 0) (pa_cons (pv 2) pa_nil))) pa_nil))))
  (pss_cons (ps_if (PW.pt (pw_or (pt_not (pt_val (pe_callB call_isi (by rfl) T.m_isinstance (by decide +kernel) (pa_cons (pv 4) (pa_cons (pe_bltn (by rfl) T.m_str (by decide +kernel) rfl) pa_nil))))) (pw_or1 (pt_cmpR (op_ninX hr.units) (pv 4) (pv 2) rfl)))) (pss_one (ps_if (pt_not (pt_val (pe_callG (ok__law_rank_refused T) hgd (hr.mono (by decide)) (by rfl) T.g__law_rank_refused T.F__law_rank_refused.kp T.b__law_rank_refused pass0 (pa_cons (pv 1) (pa_cons (pv 4) pa_nil))))) (pss_one (ps_ret pe_bl)) pss_nil)) pss_nil)
  (pss_cons (ps_expr (pe_bm0 PySem.F.plainAttrs_list PySem.F.slot_list_clear PySem.F.type_list_clear mt_clear (pe_meth0 (pv 1) T.cl_Letters T.M_Letters_names (ok_Letters_names T) (hr.mono (by decide)) T.b_Letters_names .nil pass0)))
  (pss_cons (ps_expr (pe_bm PySem.F.plainAttrs_list PySem.F.slot_list_append PySem.F.type_list_append mt_append (pe_meth0 (pv 1) T.cl_Letters T.M_Letters_ranked (ok_Letters_ranked T) (hr.mono (by decide)) T.b_Letters_ranked .nil pass0) (pa_cons pe_str pa_nil)))
  (pss_one (ps_ret (pe_and (pe_cmpR (op_eqT hr.units) (pe_meth0 (pv 1) T.cl_Letters T.M_Letters_names (ok_Letters_names T) (hr.mono (by decide)) T.b_Letters_names .nil pass0) (pe_callB cr_sortedS (by rfl) T.m_sorted (by decide +kernel) (pa_cons (pv 2) pa_nil)) (nomark _)) (pe_one (pe_cmpR (op_eqT hr.units) (pe_meth0 (pv 1) T.cl_Letters T.M_Letters_ranked (ok_Letters_ranked T) (hr.mono (by decide)) T.b_Letters_ranked .nil pass0) (pv 2) (nomark _)))))))))))))
theorem ok__law_told_right (T : Tx K mg) : FnG P w K mg base 5 T.f__law_told_right T.d__law_told_right ["_law_state", "_law_told", "_law_words"] (sp__law_told_right K T.c_Letters) :=
  okG T.F__law_told_right sc__law_told_right (fun vs H Q E h => len__law_told_right h) (fun cdv A hgd outer s H vs Q E hr h => ⟨t__law_told_right K T.c_Letters, der__law_told_right T hgd hr, rd__law_told_right T.rc_Letters h⟩)
theorem der__law_alike_right (T : Tx K mg) {cdv : Value} {A : Around} {outer : List Env} {s : Shared} {H : Hp} {E : XK} (hr : Room 3 (A.deeper (envOfC "_law_alike_right" (defScope s__law_alike_right) s.heap.objs.size T.f__law_alike_right cdv))) :
    PSs (cxOf CX0 P w K mg base n__law_alike_right "_law_alike_right" (defScope s__law_alike_right) T.f__law_alike_right cdv A outer s H E).nox (defBody s__law_alike_right) (t__law_alike_right K T.c_Letters) :=
  have nd := sc__law_alike_right.nd
  (pss_cons (ps_for PassesOwn.never rfl (pi_list (pe_lst (pa_cons (pv 1) (pa_cons (pe_revL (pv 1)) (pa_cons (pe_slice sl_list (pv 1) (po_some pe_int) po_none) (pa_cons (pe_op op_cat (pe_slice sl_list (pv 1) (po_some pe_int) po_none) (pe_slice sl_list (pv 1) po_none (po_some pe_int))) pa_nil)))))) (pg_name (i := 2) nd rfl (by first | exact Or.inl rfl | exact Or.inr rfl))
  (pss_one (ps_if (pt_cmpR (op_neT hr.units) (pv 2) (pe_lst pa_nil) (nomark _)) (pss_cons (ps_set (i := 3) nd rfl (Or.inl rfl) (pe_make T.K_Letters (ok_Letters___init__ T) (hr.mono (by decide)) (by rfl) T.g_Letters T.b_Letters___init__ .nil passL (pa_cons (pe_callTy cr_tupleO (by rfl) T.m_tuple (by decide +kernel) (pa_cons (pv 2) pa_nil)) pa_nil)))
  (pss_one (ps_if (PW.pt (pw_or (pt_cmpR op_ne (pe_cmpR (op_insEq (ok_Letters___eq__ T) (hr.mono (by decide)) T.M_Letters___eq__ T.b_Letters___eq__ pass0) (pv 0) (pv 3) (nomark _)) (pe_cmpR (op_eqT hr.units) (pv 2) (pv 1) (nomark _)) (nomark _)) (pw_or1 (pt_cmpR op_eq (pe_cmpR (op_insNe (ok_Letters___eq__ T) (hr.mono (by decide)) T.M_Letters___eq__ T.ne_Letters T.rc_Letters.i.hm T.b_Letters___eq__ pass0) (pv 0) (pv 3) (nomark _)) (pe_cmpR (op_eqT hr.units) (pv 2) (pv 1) (nomark _)) (nomark _))))) (pss_one (ps_ret pe_bl)) pss_nil))) pss_nil)))
  (pss_one (ps_ret (pe_not (pe_callB (cr_any rfl) (by rfl) T.m_any (by decide +kernel) (pa_cons (pe_lc (own := [("_law_other", 4)]) rfl nd (pi_list (pe_lst (pa_cons pe_non (pa_cons (pv 1) (pa_cons (pe_callTy cr_tupleO (by rfl) T.m_tuple (by decide +kernel) (pa_cons (pv 1) pa_nil)) (pa_cons (pe_callB cr_len (by rfl) T.m_len (by decide +kernel) (pa_cons (pv 1) pa_nil)) (pa_cons (pe_ix ix_list (pv 1) pe_int (fun _ _ => rfl)) pa_nil))))))) (blkOk_by (own := [("_law_other", 4)]) (N := n__law_alike_right) (sc := defScope s__law_alike_right) (by decide +kernel)) (fun _ _ _ _ _ => (pg_name (i := 4) nd rfl (by first | exact Or.inl rfl | exact Or.inr rfl))) (fun _ _ _ _ _ => pts_nil) (fun _ _ _ _ _ => (pe_cmpR (op_insEqA (ok_Letters___eq__ T) (hr.mono (by decide)) T.M_Letters___eq__ T.b_Letters___eq__ pass0) (pv 0) (pv 4) (nomark _)))) pa_nil))))))
theorem ok__law_alike_right (T : Tx K mg) : FnOk P w K mg base CX0 4 T.f__law_alike_right T.d__law_alike_right ["_law_told", "_law_words"] (sp__law_alike_right K T.c_Letters) :=
  T.F__law_alike_right.ok sc__law_alike_right (fun vs H Q E h => len__law_alike_right h) (fun cdv A outer s H vs Q E hr h => ⟨t__law_alike_right K T.c_Letters, der__law_alike_right T hr, rd__law_alike_right T.rc_Letters T.nk_Letters T.ns_Letters h⟩)
theorem der__law_made (T : Tx K mg) {cdv : Value} {A : Around} {outer : List Env} {s : Shared} {H : Hp} {E : XK} (hr : Room 3 (A.deeper (envOfC "_law_made" (defScope s__law_made) s.heap.objs.size T.f__law_made cdv))) :
    PSs (cxOf CX0 P w K mg base n__law_made "_law_made" (defScope s__law_made) T.f__law_made cdv A outer s H E).nox (defBody s__law_made) (t__law_made K T.c_Letters) :=
  have nd := sc__law_made.nd
  (pss_cons (ps_asg (pe_tup (pa_cons pe_non (pa_cons pe_non pa_nil))) (pg_tup rfl (pgs_cons (pg_name (i := 1) nd rfl (by first | exact Or.inl rfl | exact Or.inr rfl)) (pgs_cons (pg_name (i := 2) nd rfl (by first | exact Or.inl rfl | exact Or.inr rfl)) pgs_nil))))
  (pss_cons (BX.ps_try_asK (i := 3) (tb := fun W => (tAsg (tMakeTS T.c_Letters (sp_Letters___init__ K T.c_Letters) (WE W) (tCons (tVar 0) tNil)) (gName 1))) (ts := fun a cls d => (tAsg (tVar 3) (gName 2))) (Wout := fun _ _ _ _ => False) rfl rfl nd rfl rfl ⟨by rfl, by decide, Or.inl T.g_LeftError⟩ takes0 (fun W pn xe tk _ => (pss_one (ps_set (i := 1) nd rfl (Or.inl rfl) (pe_makeTS T.K_Letters (ok_Letters___init__ T) (hr.mono (by decide)) (by rfl) T.g_Letters T.b_Letters___init__ (fun σ => passAt tk σ) (pa_cons (pv 0) pa_nil))))) (fun a oe cls d pn hz hf => (pss_one (ps_set (i := 2) nd rfl (Or.inl rfl) (pv 3)))) rfl)
  (pss_cons (ps_set (i := 4) nd rfl (Or.inl rfl) (pe_callB (call_orB call_isKT call_isiT) (by rfl) T.m_isinstance (by decide +kernel) (pa_cons (pv 2) (pa_cons (pe_tup (pa_cons (pe_glob (by rfl) T.g_NoFeed rfl) (pa_cons (pe_glob (by rfl) T.g_NoLetter rfl) (pa_cons (pe_glob (by rfl) T.g_NoMany rfl) (pa_cons (pe_glob (by rfl) T.g_NoName rfl) (pa_cons (pe_glob (by rfl) T.g_NoTally rfl) (pa_cons (pe_glob (by rfl) T.g_NoText rfl) pa_nil))))))) pa_nil))))
  (pss_one (ps_ret (pe_tup (pa_cons (pv 1) (pa_cons (pe_and (pe_callB (call_orB BE.call_isF call_isi) (by rfl) T.m_isinstance (by decide +kernel) (pa_cons (pv 2) (pa_cons (pe_glob (by rfl) T.g_NoLetters rfl) pa_nil))) (pe_and (pe_callB (call_orB BE.call_isF call_isi) (by rfl) T.m_isinstance (by decide +kernel) (pa_cons (pv 2) (pa_cons (pe_bltn (by rfl) T.m_ValueError (by decide +kernel) rfl) pa_nil))) (pe_one (pe_not (pv 4))))) pa_nil))))))))
theorem ok__law_made (T : Tx K mg) : FnOk P w K mg base CX0 4 T.f__law_made T.d__law_made ["_law_matter"] (sp__law_made K T.c_Letters) :=
  T.F__law_made.ok sc__law_made (fun vs H Q E h => len__law_made h) (fun cdv A outer s H vs Q E hr h => ⟨t__law_made K T.c_Letters, der__law_made T hr, rd__law_made T.rc_Letters T.rf_NoLetters T.kn_NoFeed T.kn_NoLetter T.kn_NoMany T.kn_NoName T.kn_NoTally T.kn_NoText T.kn_NoLetters h⟩)
theorem der_law (T : Tx K mg) {cdv : Value} {A : Around} {outer : List Env} {s : Shared} {H : Hp} {E : XK} (hgd : A.guards = some []) (hr : Room 5 (A.deeper (envOfC "law" (defScope s_law) s.heap.objs.size T.f_law cdv))) :
    PSs (cxOf CX0 P w K mg base n_law "law" (defScope s_law) T.f_law cdv A outer s H E).nox (defBody s_law) (t_law K T.c_Letters) :=
  have nd := sc_law.nd
  (pss_cons (ps_set (i := 1) nd rfl (Or.inl rfl) (pe_call (ok__law_begun T) (hr.mono (by decide)) (by rfl) T.g__law_begun T.F__law_begun.kp T.b__law_begun .nil pass0 (pa_cons (pv 0) pa_nil)))
  (pss_cons (ps_for PassesOwn.never rfl (pi_range1 rfl T.m_range (pa_cons pe_int pa_nil)) (pg_name (i := 2) nd rfl (by first | exact Or.inl rfl | exact Or.inr rfl))
  (pss_cons (ps_set (i := 3) nd rfl (Or.inl rfl) (pe_call (ok__law_names T) (hr.mono (by decide)) (by rfl) T.g__law_names T.F__law_names.kp T.b__law_names .nil pass0 (pa_cons (pv 1) (pa_cons (pe_op op_add pe_int (pe_call (ok__law_draw T) (hr.mono (by decide)) (by rfl) T.g__law_draw T.F__law_draw.kp T.b__law_draw .nil pass0 (pa_cons (pv 1) (pa_cons pe_int pa_nil)))) pa_nil))))
  (pss_cons (ps_set (i := 4) nd rfl (Or.inl rfl) (pe_call (ok__law_bent T) (hr.mono (by decide)) (by rfl) T.g__law_bent T.F__law_bent.kp T.b__law_bent .nil pass0 (pa_cons (pv 1) (pa_cons (pv 3) pa_nil))))
  (pss_cons (ps_set (i := 5) nd rfl (Or.inl rfl) (pe_ifExp (pt_val (pe_callB call_isiT (by rfl) T.m_isinstance (by decide +kernel) (pa_cons (pv 4) (pa_cons (pe_tup (pa_cons (pe_bltn (by rfl) T.m_list (by decide +kernel) rfl) (pa_cons (pe_bltn (by rfl) T.m_tuple (by decide +kernel) rfl) pa_nil))) pa_nil)))) (pe_callTy cr_listO (by rfl) T.m_list (by decide +kernel) (pa_cons (pv 4) pa_nil)) (pe_lst (pa_cons (pv 4) pa_nil))))
  (pss_cons (ps_for PassesOwn.never rfl (pi_list (pv 5)) (pg_name (i := 6) nd rfl (by first | exact Or.inl rfl | exact Or.inr rfl))
  (pss_one (ps_if (PW.pt (pw_or (pt_not (pt_val (pe_callB call_isi (by rfl) T.m_isinstance (by decide +kernel) (pa_cons (pe_call (ok_is_letter T) (hr.mono (by decide)) (by rfl) T.g_is_letter T.F_is_letter.kp T.b_is_letter .nil pass0 (pa_cons (pv 6) pa_nil)) (pa_cons (pe_bltn (by rfl) T.m_bool (by decide +kernel) rfl) pa_nil))))) (pw_or1 (pt_cmpR op_ne (pe_callKw (ok_is_letter T) (hr.mono (by decide)) (by rfl) T.g_is_letter T.F_is_letter.kp T.kb_is_letter_thing pass0 (pk_cons (pv 6) pk_nil)) (pe_call (ok__law_is_letter T) (hr.mono (by decide)) (by rfl) T.g__law_is_letter T.F__law_is_letter.kp T.b__law_is_letter .nil pass0 (pa_cons (pv 6) pa_nil)) (nomark _))))) (pss_one (ps_ret pe_bl)) pss_nil)))
  (pss_cons (ps_asg (pe_call (ok__law_made T) (hr.mono (by decide)) (by rfl) T.g__law_made T.F__law_made.kp T.b__law_made .nil pass0 (pa_cons (pv 4) pa_nil)) (pg_tup rfl (pgs_cons (pg_name (i := 7) nd rfl (by first | exact Or.inl rfl | exact Or.inr rfl)) (pgs_cons (pg_name (i := 8) nd rfl (by first | exact Or.inl rfl | exact Or.inr rfl)) pgs_nil))))
  (pss_one (ps_if (pt_not (pt_val (pe_call (ok__law_are_letters T) (hr.mono (by decide)) (by rfl) T.g__law_are_letters T.F__law_are_letters.kp T.b__law_are_letters .nil pass0 (pa_cons (pv 4) pa_nil)))) (pss_one (ps_if (PW.pt (pw_or (pt_cmpR op_notN (pv 7) pe_non (nomark _)) (pw_or1 (pt_not (pt_val (pv 8)))))) (pss_one (ps_ret pe_bl)) pss_nil)) (pss_cons (ps_set (i := 9) nd rfl (Or.inl rfl) (pe_callTy cr_listO (by rfl) T.m_list (by decide +kernel) (pa_cons (pv 4) pa_nil)))
  (pss_cons (ps_if (pt_val (pe_callB call_isi (by rfl) T.m_isinstance (by decide +kernel) (pa_cons (pv 4) (pa_cons (pe_bltn (by rfl) T.m_list (by decide +kernel) rfl) pa_nil)))) (pss_cons (ps_set (i := 7) nd rfl (Or.inl rfl) (pe_makeKE T.K_Letters (ok_Letters___init__ T) (hr.mono (by decide)) (by rfl) T.g_Letters T.kn_Letters___init___1_names passL (pk_cons (pv 4) pk_nil)))
  (pss_one (ps_expr (pe_bm PySem.F.plainAttrs_list PySem.F.slot_list_append PySem.F.type_list_append mt_append (pv 4) (pa_cons pe_str pa_nil))))) pss_nil)
  (pss_one (ps_if (PW.pt (pw_or (pt_cmpR op_isN (pv 7) pe_non (nomark _)) (pw_or (pt_not (pt_val (pe_callG (ok__law_told_right T) hgd (hr.mono (by decide)) (by rfl) T.g__law_told_right T.F__law_told_right.kp T.b__law_told_right pass0 (pa_cons (pv 1) (pa_cons (pv 7) (pa_cons (pv 9) pa_nil)))))) (pw_or1 (pt_not (pt_val (pe_call (ok__law_alike_right T) (hr.mono (by decide)) (by rfl) T.g__law_alike_right T.F__law_alike_right.kp T.b__law_alike_right .nil pass0 (pa_cons (pv 7) (pa_cons (pv 9) pa_nil))))))))) (pss_one (ps_ret pe_bl)) pss_nil))))))))))))
  (pss_one (ps_ret pe_bl))))
theorem ok_law (T : Tx K mg) : FnG P w K mg base 6 T.f_law T.d_law ["_law_script"] (sp_law K) :=
  okG T.F_law sc_law (fun vs H Q E h => len_law h) (fun cdv A hgd outer s H vs Q E hr h => ⟨t_law K T.c_Letters, der_law T hgd hr, rd_law T.rc_Letters h⟩)

end

theorem all_mk {l : PySem.W.OpenLaw} {w : World} {K : Fg} {h : Heap} {mg : Str → Option Value} {fa c_Letters c_LeftError c_NoFeed c_NoLetter c_NoLetters c_NoMany c_NoName c_NoTally c_NoText f_NoLetter___init__ f_is_letter f_Letters___init__ f_Letters___len__ f_Letters_ranked f_Letters___eq__ f_Letters_names f_Letters_has f_Letters_rank f__law_begun f__law_draw f__law_pick f__law_names f__law_is_letter f__law_odd f__law_bent f__law_are_letters f__law_rank_refused f__law_told_right f__law_alike_right f__law_made f_law : Addr} (X : K.In h) (G : h.Ns mainGlobals mg) (hfa : mg "law" = some (.ref fa))
     {od_NoLetter___init__ an_NoLetter___init__ od_is_letter an_is_letter od_Letters___init__ an_Letters___init__ od_Letters___len__ an_Letters___len__ od_Letters_ranked an_Letters_ranked od_Letters___eq__ an_Letters___eq__ od_Letters_names an_Letters_names od_Letters_has an_Letters_has od_Letters_rank an_Letters_rank od__law_begun an__law_begun od__law_draw an__law_draw od__law_pick an__law_pick od__law_names an__law_names od__law_is_letter an__law_is_letter od__law_odd an__law_odd od__law_bent an__law_bent od__law_are_letters an__law_are_letters od__law_rank_refused an__law_rank_refused od__law_told_right an__law_told_right od__law_alike_right an__law_alike_right od__law_made an__law_made od_law an_law : Option Addr} {sl_NoLetter___init__ sl_is_letter sl_Letters___init__ sl_Letters___len__ sl_Letters_ranked sl_Letters___eq__ sl_Letters_names sl_Letters_has sl_Letters_rank sl__law_begun sl__law_draw sl__law_pick sl__law_names sl__law_is_letter sl__law_odd sl__law_bent sl__law_are_letters sl__law_rank_refused sl__law_told_right sl__law_alike_right sl__law_made sl_law : Array (Option Value)} {oc_NoLetter___init__ kV_NoLetter___init__ dc_NoLetter___init__ pm_NoLetter___init__ cd_NoLetter___init__ ct_NoLetter___init__ oc_is_letter kV_is_letter dc_is_letter pm_is_letter cd_is_letter ct_is_letter oc_Letters___init__ kV_Letters___init__ dc_Letters___init__ pm_Letters___init__ cd_Letters___init__ ct_Letters___init__ oc_Letters___len__ kV_Letters___len__ dc_Letters___len__ pm_Letters___len__ cd_Letters___len__ ct_Letters___len__ oc_Letters_ranked kV_Letters_ranked dc_Letters_ranked pm_Letters_ranked cd_Letters_ranked ct_Letters_ranked oc_Letters___eq__ kV_Letters___eq__ dc_Letters___eq__ pm_Letters___eq__ cd_Letters___eq__ ct_Letters___eq__ oc_Letters_names kV_Letters_names dc_Letters_names pm_Letters_names cd_Letters_names ct_Letters_names oc_Letters_has kV_Letters_has dc_Letters_has pm_Letters_has cd_Letters_has ct_Letters_has oc_Letters_rank kV_Letters_rank dc_Letters_rank pm_Letters_rank cd_Letters_rank ct_Letters_rank oc__law_begun kV__law_begun dc__law_begun pm__law_begun cd__law_begun ct__law_begun oc__law_draw kV__law_draw dc__law_draw pm__law_draw cd__law_draw ct__law_draw oc__law_pick kV__law_pick dc__law_pick pm__law_pick cd__law_pick ct__law_pick oc__law_names kV__law_names dc__law_names pm__law_names cd__law_names ct__law_names oc__law_is_letter kV__law_is_letter dc__law_is_letter pm__law_is_letter cd__law_is_letter ct__law_is_letter oc__law_odd kV__law_odd dc__law_odd pm__law_odd cd__law_odd ct__law_odd oc__law_bent kV__law_bent dc__law_bent pm__law_bent cd__law_bent ct__law_bent oc__law_are_letters kV__law_are_letters dc__law_are_letters pm__law_are_letters cd__law_are_letters ct__law_are_letters oc__law_rank_refused kV__law_rank_refused dc__law_rank_refused pm__law_rank_refused cd__law_rank_refused ct__law_rank_refused oc__law_told_right kV__law_told_right dc__law_told_right pm__law_told_right cd__law_told_right ct__law_told_right oc__law_alike_right kV__law_alike_right dc__law_alike_right pm__law_alike_right cd__law_alike_right ct__law_alike_right oc__law_made kV__law_made dc__law_made pm__law_made cd__law_made ct__law_made oc_law kV_law dc_law pm_law cd_law ct_law : Value}
    (z_isinstance : PySem.W.nsIn K mainGlobals "isinstance" = some none)
    (z_str : PySem.W.nsIn K mainGlobals "str" = some none)
    (z_len : PySem.W.nsIn K mainGlobals "len" = some none)
    (z_all : PySem.W.nsIn K mainGlobals "all" = some none)
    (z_list : PySem.W.nsIn K mainGlobals "list" = some none)
    (z_tuple : PySem.W.nsIn K mainGlobals "tuple" = some none)
    (z_set : PySem.W.nsIn K mainGlobals "set" = some none)
    (z_enumerate : PySem.W.nsIn K mainGlobals "enumerate" = some none)
    (z_sorted : PySem.W.nsIn K mainGlobals "sorted" = some none)
    (z_abs : PySem.W.nsIn K mainGlobals "abs" = some none)
    (z_range : PySem.W.nsIn K mainGlobals "range" = some none)
    (z_repr : PySem.W.nsIn K mainGlobals "repr" = some none)
    (z_any : PySem.W.nsIn K mainGlobals "any" = some none)
    (z_ValueError : PySem.W.nsIn K mainGlobals "ValueError" = some none)
    (z_bool : PySem.W.nsIn K mainGlobals "bool" = some none)
    (l_NoLetter___init__ : K.lookup f_NoLetter___init__ = some ⟨oc_NoLetter___init__, od_NoLetter___init__, .func (PySem.W.fnOf "__init__" "NoLetter.__init__" (defArgs s_NoLetter___init__) (defBody s_NoLetter___init__) (defScope s_NoLetter___init__) .none kV_NoLetter___init__ dc_NoLetter___init__ pm_NoLetter___init__ an_NoLetter___init__ cd_NoLetter___init__ ct_NoLetter___init__), sl_NoLetter___init__⟩)
    (c_NoLetter___init__ : PySem.W.codeIn K cd_NoLetter___init__ "NoLetter.__init__" = true)
    (k_NoLetter___init__ : PySem.W.keepIn K (.ref f_NoLetter___init__) = true)
    (a_is_letter : PySem.W.nsIn K mainGlobals "is_letter" = some (some (.ref f_is_letter)))
    (l_is_letter : K.lookup f_is_letter = some ⟨oc_is_letter, od_is_letter, .func (PySem.W.fnOf "is_letter" "is_letter" (defArgs s_is_letter) (defBody s_is_letter) (defScope s_is_letter) .none kV_is_letter dc_is_letter pm_is_letter an_is_letter cd_is_letter ct_is_letter), sl_is_letter⟩)
    (c_is_letter : PySem.W.codeIn K cd_is_letter "is_letter" = true)
    (k_is_letter : PySem.W.keepIn K (.ref f_is_letter) = true)
    (l_Letters___init__ : K.lookup f_Letters___init__ = some ⟨oc_Letters___init__, od_Letters___init__, .func (PySem.W.fnOf "__init__" "Letters.__init__" (defArgs s_Letters___init__) (defBody s_Letters___init__) (defScope s_Letters___init__) .none kV_Letters___init__ dc_Letters___init__ pm_Letters___init__ an_Letters___init__ cd_Letters___init__ ct_Letters___init__), sl_Letters___init__⟩)
    (c_Letters___init__ : PySem.W.codeIn K cd_Letters___init__ "Letters.__init__" = true)
    (k_Letters___init__ : PySem.W.keepIn K (.ref f_Letters___init__) = true)
    (l_Letters___len__ : K.lookup f_Letters___len__ = some ⟨oc_Letters___len__, od_Letters___len__, .func (PySem.W.fnOf "__len__" "Letters.__len__" (defArgs s_Letters___len__) (defBody s_Letters___len__) (defScope s_Letters___len__) .none kV_Letters___len__ dc_Letters___len__ pm_Letters___len__ an_Letters___len__ cd_Letters___len__ ct_Letters___len__), sl_Letters___len__⟩)
    (c_Letters___len__ : PySem.W.codeIn K cd_Letters___len__ "Letters.__len__" = true)
    (k_Letters___len__ : PySem.W.keepIn K (.ref f_Letters___len__) = true)
    (l_Letters_ranked : K.lookup f_Letters_ranked = some ⟨oc_Letters_ranked, od_Letters_ranked, .func (PySem.W.fnOf "ranked" "Letters.ranked" (defArgs s_Letters_ranked) (defBody s_Letters_ranked) (defScope s_Letters_ranked) .none kV_Letters_ranked dc_Letters_ranked pm_Letters_ranked an_Letters_ranked cd_Letters_ranked ct_Letters_ranked), sl_Letters_ranked⟩)
    (c_Letters_ranked : PySem.W.codeIn K cd_Letters_ranked "Letters.ranked" = true)
    (k_Letters_ranked : PySem.W.keepIn K (.ref f_Letters_ranked) = true)
    (l_Letters___eq__ : K.lookup f_Letters___eq__ = some ⟨oc_Letters___eq__, od_Letters___eq__, .func (PySem.W.fnOf "__eq__" "Letters.__eq__" (defArgs s_Letters___eq__) (defBody s_Letters___eq__) (defScope s_Letters___eq__) .none kV_Letters___eq__ dc_Letters___eq__ pm_Letters___eq__ an_Letters___eq__ cd_Letters___eq__ ct_Letters___eq__), sl_Letters___eq__⟩)
    (c_Letters___eq__ : PySem.W.codeIn K cd_Letters___eq__ "Letters.__eq__" = true)
    (k_Letters___eq__ : PySem.W.keepIn K (.ref f_Letters___eq__) = true)
    (l_Letters_names : K.lookup f_Letters_names = some ⟨oc_Letters_names, od_Letters_names, .func (PySem.W.fnOf "names" "Letters.names" (defArgs s_Letters_names) (defBody s_Letters_names) (defScope s_Letters_names) .none kV_Letters_names dc_Letters_names pm_Letters_names an_Letters_names cd_Letters_names ct_Letters_names), sl_Letters_names⟩)
    (c_Letters_names : PySem.W.codeIn K cd_Letters_names "Letters.names" = true)
    (k_Letters_names : PySem.W.keepIn K (.ref f_Letters_names) = true)
    (l_Letters_has : K.lookup f_Letters_has = some ⟨oc_Letters_has, od_Letters_has, .func (PySem.W.fnOf "has" "Letters.has" (defArgs s_Letters_has) (defBody s_Letters_has) (defScope s_Letters_has) .none kV_Letters_has dc_Letters_has pm_Letters_has an_Letters_has cd_Letters_has ct_Letters_has), sl_Letters_has⟩)
    (c_Letters_has : PySem.W.codeIn K cd_Letters_has "Letters.has" = true)
    (k_Letters_has : PySem.W.keepIn K (.ref f_Letters_has) = true)
    (l_Letters_rank : K.lookup f_Letters_rank = some ⟨oc_Letters_rank, od_Letters_rank, .func (PySem.W.fnOf "rank" "Letters.rank" (defArgs s_Letters_rank) (defBody s_Letters_rank) (defScope s_Letters_rank) .none kV_Letters_rank dc_Letters_rank pm_Letters_rank an_Letters_rank cd_Letters_rank ct_Letters_rank), sl_Letters_rank⟩)
    (c_Letters_rank : PySem.W.codeIn K cd_Letters_rank "Letters.rank" = true)
    (k_Letters_rank : PySem.W.keepIn K (.ref f_Letters_rank) = true)
    (a__law_begun : PySem.W.nsIn K mainGlobals "_law_begun" = some (some (.ref f__law_begun)))
    (l__law_begun : K.lookup f__law_begun = some ⟨oc__law_begun, od__law_begun, .func (PySem.W.fnOf "_law_begun" "_law_begun" (defArgs s__law_begun) (defBody s__law_begun) (defScope s__law_begun) .none kV__law_begun dc__law_begun pm__law_begun an__law_begun cd__law_begun ct__law_begun), sl__law_begun⟩)
    (c__law_begun : PySem.W.codeIn K cd__law_begun "_law_begun" = true)
    (k__law_begun : PySem.W.keepIn K (.ref f__law_begun) = true)
    (a__law_draw : PySem.W.nsIn K mainGlobals "_law_draw" = some (some (.ref f__law_draw)))
    (l__law_draw : K.lookup f__law_draw = some ⟨oc__law_draw, od__law_draw, .func (PySem.W.fnOf "_law_draw" "_law_draw" (defArgs s__law_draw) (defBody s__law_draw) (defScope s__law_draw) .none kV__law_draw dc__law_draw pm__law_draw an__law_draw cd__law_draw ct__law_draw), sl__law_draw⟩)
    (c__law_draw : PySem.W.codeIn K cd__law_draw "_law_draw" = true)
    (k__law_draw : PySem.W.keepIn K (.ref f__law_draw) = true)
    (a__law_pick : PySem.W.nsIn K mainGlobals "_law_pick" = some (some (.ref f__law_pick)))
    (l__law_pick : K.lookup f__law_pick = some ⟨oc__law_pick, od__law_pick, .func (PySem.W.fnOf "_law_pick" "_law_pick" (defArgs s__law_pick) (defBody s__law_pick) (defScope s__law_pick) .none kV__law_pick dc__law_pick pm__law_pick an__law_pick cd__law_pick ct__law_pick), sl__law_pick⟩)
    (c__law_pick : PySem.W.codeIn K cd__law_pick "_law_pick" = true)
    (k__law_pick : PySem.W.keepIn K (.ref f__law_pick) = true)
    (a__law_names : PySem.W.nsIn K mainGlobals "_law_names" = some (some (.ref f__law_names)))
    (l__law_names : K.lookup f__law_names = some ⟨oc__law_names, od__law_names, .func (PySem.W.fnOf "_law_names" "_law_names" (defArgs s__law_names) (defBody s__law_names) (defScope s__law_names) .none kV__law_names dc__law_names pm__law_names an__law_names cd__law_names ct__law_names), sl__law_names⟩)
    (c__law_names : PySem.W.codeIn K cd__law_names "_law_names" = true)
    (k__law_names : PySem.W.keepIn K (.ref f__law_names) = true)
    (a__law_is_letter : PySem.W.nsIn K mainGlobals "_law_is_letter" = some (some (.ref f__law_is_letter)))
    (l__law_is_letter : K.lookup f__law_is_letter = some ⟨oc__law_is_letter, od__law_is_letter, .func (PySem.W.fnOf "_law_is_letter" "_law_is_letter" (defArgs s__law_is_letter) (defBody s__law_is_letter) (defScope s__law_is_letter) .none kV__law_is_letter dc__law_is_letter pm__law_is_letter an__law_is_letter cd__law_is_letter ct__law_is_letter), sl__law_is_letter⟩)
    (c__law_is_letter : PySem.W.codeIn K cd__law_is_letter "_law_is_letter" = true)
    (k__law_is_letter : PySem.W.keepIn K (.ref f__law_is_letter) = true)
    (a__law_odd : PySem.W.nsIn K mainGlobals "_law_odd" = some (some (.ref f__law_odd)))
    (l__law_odd : K.lookup f__law_odd = some ⟨oc__law_odd, od__law_odd, .func (PySem.W.fnOf "_law_odd" "_law_odd" (defArgs s__law_odd) (defBody s__law_odd) (defScope s__law_odd) .none kV__law_odd dc__law_odd pm__law_odd an__law_odd cd__law_odd ct__law_odd), sl__law_odd⟩)
    (c__law_odd : PySem.W.codeIn K cd__law_odd "_law_odd" = true)
    (k__law_odd : PySem.W.keepIn K (.ref f__law_odd) = true)
    (a__law_bent : PySem.W.nsIn K mainGlobals "_law_bent" = some (some (.ref f__law_bent)))
    (l__law_bent : K.lookup f__law_bent = some ⟨oc__law_bent, od__law_bent, .func (PySem.W.fnOf "_law_bent" "_law_bent" (defArgs s__law_bent) (defBody s__law_bent) (defScope s__law_bent) .none kV__law_bent dc__law_bent pm__law_bent an__law_bent cd__law_bent ct__law_bent), sl__law_bent⟩)
    (c__law_bent : PySem.W.codeIn K cd__law_bent "_law_bent" = true)
    (k__law_bent : PySem.W.keepIn K (.ref f__law_bent) = true)
    (a__law_are_letters : PySem.W.nsIn K mainGlobals "_law_are_letters" = some (some (.ref f__law_are_letters)))
    (l__law_are_letters : K.lookup f__law_are_letters = some ⟨oc__law_are_letters, od__law_are_letters, .func (PySem.W.fnOf "_law_are_letters" "_law_are_letters" (defArgs s__law_are_letters) (defBody s__law_are_letters) (defScope s__law_are_letters) .none kV__law_are_letters dc__law_are_letters pm__law_are_letters an__law_are_letters cd__law_are_letters ct__law_are_letters), sl__law_are_letters⟩)
    (c__law_are_letters : PySem.W.codeIn K cd__law_are_letters "_law_are_letters" = true)
    (k__law_are_letters : PySem.W.keepIn K (.ref f__law_are_letters) = true)
    (a__law_rank_refused : PySem.W.nsIn K mainGlobals "_law_rank_refused" = some (some (.ref f__law_rank_refused)))
    (l__law_rank_refused : K.lookup f__law_rank_refused = some ⟨oc__law_rank_refused, od__law_rank_refused, .func (PySem.W.fnOf "_law_rank_refused" "_law_rank_refused" (defArgs s__law_rank_refused) (defBody s__law_rank_refused) (defScope s__law_rank_refused) .none kV__law_rank_refused dc__law_rank_refused pm__law_rank_refused an__law_rank_refused cd__law_rank_refused ct__law_rank_refused), sl__law_rank_refused⟩)
    (c__law_rank_refused : PySem.W.codeIn K cd__law_rank_refused "_law_rank_refused" = true)
    (k__law_rank_refused : PySem.W.keepIn K (.ref f__law_rank_refused) = true)
    (a__law_told_right : PySem.W.nsIn K mainGlobals "_law_told_right" = some (some (.ref f__law_told_right)))
    (l__law_told_right : K.lookup f__law_told_right = some ⟨oc__law_told_right, od__law_told_right, .func (PySem.W.fnOf "_law_told_right" "_law_told_right" (defArgs s__law_told_right) (defBody s__law_told_right) (defScope s__law_told_right) .none kV__law_told_right dc__law_told_right pm__law_told_right an__law_told_right cd__law_told_right ct__law_told_right), sl__law_told_right⟩)
    (c__law_told_right : PySem.W.codeIn K cd__law_told_right "_law_told_right" = true)
    (k__law_told_right : PySem.W.keepIn K (.ref f__law_told_right) = true)
    (a__law_alike_right : PySem.W.nsIn K mainGlobals "_law_alike_right" = some (some (.ref f__law_alike_right)))
    (l__law_alike_right : K.lookup f__law_alike_right = some ⟨oc__law_alike_right, od__law_alike_right, .func (PySem.W.fnOf "_law_alike_right" "_law_alike_right" (defArgs s__law_alike_right) (defBody s__law_alike_right) (defScope s__law_alike_right) .none kV__law_alike_right dc__law_alike_right pm__law_alike_right an__law_alike_right cd__law_alike_right ct__law_alike_right), sl__law_alike_right⟩)
    (c__law_alike_right : PySem.W.codeIn K cd__law_alike_right "_law_alike_right" = true)
    (k__law_alike_right : PySem.W.keepIn K (.ref f__law_alike_right) = true)
    (a__law_made : PySem.W.nsIn K mainGlobals "_law_made" = some (some (.ref f__law_made)))
    (l__law_made : K.lookup f__law_made = some ⟨oc__law_made, od__law_made, .func (PySem.W.fnOf "_law_made" "_law_made" (defArgs s__law_made) (defBody s__law_made) (defScope s__law_made) .none kV__law_made dc__law_made pm__law_made an__law_made cd__law_made ct__law_made), sl__law_made⟩)
    (c__law_made : PySem.W.codeIn K cd__law_made "_law_made" = true)
    (k__law_made : PySem.W.keepIn K (.ref f__law_made) = true)
    (a_law : PySem.W.nsIn K mainGlobals "law" = some (some (.ref f_law)))
    (l_law : K.lookup f_law = some ⟨oc_law, od_law, .func (PySem.W.fnOf "law" "law" (defArgs s_law) (defBody s_law) (defScope s_law) .none kV_law dc_law pm_law an_law cd_law ct_law), sl_law⟩)
    (c_law : PySem.W.codeIn K cd_law "law" = true)
    (k_law : PySem.W.keepIn K (.ref f_law) = true)
    (ac_Letters : PySem.W.nsIn K mainGlobals "Letters" = some (some (.ref c_Letters)))
    (pg_Letters : PySem.W.plainGet K c_Letters Str.empty = true)
    (hd_Letters : PySem.W.hasDictIn K c_Letters = true)
    (po_Letters : PySem.W.plainOver K c_Letters = true)
    (sa_Letters : PySem.W.findIn K (.ref c_Letters) "__setattr__" = some (some (.builtin "object.__setattr__")))
    (mk_Letters : PySem.W.makesIn K c_Letters = true)
    (kc_Letters : PySem.W.keepIn K (.ref c_Letters) = true)
    (ia_Letters : PySem.W.findIn K (.ref c_Letters) "__class__" = some (some (.builtin "object.__class__")))
    (ib_Letters : PySem.W.specialIn K (.builtin "object.__class__") "__get__" = some (some (.builtin "getset_descriptor.__get__")))
    (ic_Letters : PySem.W.takesIn K (.builtin "object.__class__") = some true)
    (id_Letters : PySem.W.mroIn K c_Letters (.type "object") = some true)
    (ie_Letters : PySem.W.kitOne K (.ref c_Letters) (.ref c_Letters) = some true)
    (n_ranks_Letters : PySem.W.findIn K (.ref c_Letters) "ranks" = some none)
    (t_Letters___init__ : PySem.W.findIn K (.ref c_Letters) "__init__" = some (some (.ref f_Letters___init__)))
    (i_Letters___init__ : PySem.W.isFn K (.ref f_Letters___init__) = true)
    (t_Letters___len__ : PySem.W.findIn K (.ref c_Letters) "__len__" = some (some (.ref f_Letters___len__)))
    (i_Letters___len__ : PySem.W.isFn K (.ref f_Letters___len__) = true)
    (t_Letters___eq__ : PySem.W.findIn K (.ref c_Letters) "__eq__" = some (some (.ref f_Letters___eq__)))
    (i_Letters___eq__ : PySem.W.isFn K (.ref f_Letters___eq__) = true)
    (t_Letters_names : PySem.W.findIn K (.ref c_Letters) "names" = some (some (.ref f_Letters_names)))
    (i_Letters_names : PySem.W.isFn K (.ref f_Letters_names) = true)
    (t_Letters_ranked : PySem.W.findIn K (.ref c_Letters) "ranked" = some (some (.ref f_Letters_ranked)))
    (i_Letters_ranked : PySem.W.isFn K (.ref f_Letters_ranked) = true)
    (t_Letters_has : PySem.W.findIn K (.ref c_Letters) "has" = some (some (.ref f_Letters_has)))
    (i_Letters_has : PySem.W.isFn K (.ref f_Letters_has) = true)
    (t_Letters_rank : PySem.W.findIn K (.ref c_Letters) "rank" = some (some (.ref f_Letters_rank)))
    (i_Letters_rank : PySem.W.isFn K (.ref f_Letters_rank) = true)
    (nk_Letters_0 : PySem.W.kitOne K (.type "NoneType") (.ref c_Letters) = some false)
    (nk_Letters_1 : PySem.W.kitOne K (.type "int") (.ref c_Letters) = some false)
    (nk_Letters_2 : PySem.W.kitOne K (.type "list") (.ref c_Letters) = some false)
    (nk_Letters_3 : PySem.W.kitOne K (.type "tuple") (.ref c_Letters) = some false)
    (nk_Letters_4 : PySem.W.kitOne K (.type "str") (.ref c_Letters) = some false)
    (ns_Letters_0 : PySem.W.subIn K (.type "NoneType") (.ref c_Letters) = some false)
    (ns_Letters_1 : PySem.W.subIn K (.type "int") (.ref c_Letters) = some false)
    (ns_Letters_2 : PySem.W.subIn K (.type "list") (.ref c_Letters) = some false)
    (ns_Letters_3 : PySem.W.subIn K (.type "tuple") (.ref c_Letters) = some false)
    (ns_Letters_4 : PySem.W.subIn K (.type "str") (.ref c_Letters) = some false)
    (ac_LeftError : PySem.W.nsIn K mainGlobals "LeftError" = some (some (.ref c_LeftError)))
    (ac_NoFeed : PySem.W.nsIn K mainGlobals "NoFeed" = some (some (.ref c_NoFeed)))
    (ac_NoLetter : PySem.W.nsIn K mainGlobals "NoLetter" = some (some (.ref c_NoLetter)))
    (ac_NoLetters : PySem.W.nsIn K mainGlobals "NoLetters" = some (some (.ref c_NoLetters)))
    (ac_NoMany : PySem.W.nsIn K mainGlobals "NoMany" = some (some (.ref c_NoMany)))
    (ac_NoName : PySem.W.nsIn K mainGlobals "NoName" = some (some (.ref c_NoName)))
    (ac_NoTally : PySem.W.nsIn K mainGlobals "NoTally" = some (some (.ref c_NoTally)))
    (ac_NoText : PySem.W.nsIn K mainGlobals "NoText" = some (some (.ref c_NoText)))
    (xk_NoLetters : PySem.W.keepIn K (.ref c_NoLetters) = true)
    (xq_NoLetters : PySem.W.excIn K c_NoLetters [.type "ValueError", .type "Exception", .type "BaseException", .type "object"] "ValueError.__new__" = true)
    (xs_NoLetters : PySem.W.subIn K (.ref c_NoLetters) (.type "BaseException") = some true)
    (xt_NoLetters : PySem.W.typeIn K (.ref c_NoLetters) = some (.type "type"))
    (xi_NoLetters : PySem.W.isClsIn K c_NoLetters = true)
    (xu_NoLetters : PySem.W.subIn K (.ref c_NoLetters) (.ref c_NoLetters) = some true)
    (xg_NoLetters : PySem.W.findIn K (.ref c_NoLetters) "__getattribute__" = some (some (.builtin "BaseException.__getattribute__")))
    (xh_NoLetters : PySem.W.findIn K (.ref c_NoLetters) "__getattr__" = some none)
    (xd_NoLetters : PySem.W.hasDictIn K c_NoLetters = true)
    (xa_NoLetters : PySem.W.findIn K (.ref c_NoLetters) "__class__" = some (some (.builtin "object.__class__")))
    (xn_NoLetters : PySem.W.specialIn K (.builtin "object.__class__") "__get__" = some (some (.builtin "getset_descriptor.__get__")))
    (xw_NoLetters : PySem.W.takesIn K (.builtin "object.__class__") = some true)
    (xm_NoLetters : PySem.W.mroIn K c_NoLetters (.type "object") = some true)
    (xv_NoLetters : PySem.W.subIn K (.ref c_NoLetters) (.type "ValueError") = some true)
    (xk_NoLetter : PySem.W.keepIn K (.ref c_NoLetter) = true)
    (xs_NoLetter : PySem.W.subIn K (.ref c_NoLetter) (.type "BaseException") = some true)
    (xt_NoLetter : PySem.W.typeIn K (.ref c_NoLetter) = some (.type "type"))
    (xg_NoLetter : PySem.W.findIn K (.ref c_NoLetter) "__getattribute__" = some (some (.builtin "BaseException.__getattribute__")))
    (xh_NoLetter : PySem.W.findIn K (.ref c_NoLetter) "__getattr__" = some none)
    (xd_NoLetter : PySem.W.hasDictIn K c_NoLetter = true)
    (xa_NoLetter : PySem.W.findIn K (.ref c_NoLetter) "__class__" = some (some (.builtin "object.__class__")))
    (xn_NoLetter : PySem.W.specialIn K (.builtin "object.__class__") "__get__" = some (some (.builtin "getset_descriptor.__get__")))
    (xw_NoLetter : PySem.W.takesIn K (.builtin "object.__class__") = some true)
    (xm_NoLetter : PySem.W.mroIn K c_NoLetter (.type "object") = some true)
    (xv_NoLetter : PySem.W.subIn K (.ref c_NoLetter) (.type "ValueError") = some true)
    (yo_NoLetter : BE.oexIn K c_NoLetter = true)
    (ya_NoLetter : PySem.W.findIn K (.ref c_NoLetter) "__setattr__" = some (some (.builtin "object.__setattr__")))
    (t_NoLetter___init__ : PySem.W.findIn K (.ref c_NoLetter) "__init__" = some (some (.ref f_NoLetter___init__)))
    (yt_NoLetter : PySem.W.typeIn K (.ref f_NoLetter___init__) = some (.type "function"))
    (yf_name_NoLetter : PySem.W.findIn K (.ref c_NoLetter) "name" = some none)
    (xu_NoLetter : PySem.W.subIn K (.ref c_NoLetter) (.ref c_NoLetter) = some true)
    (yx_NoLetter : xfB K c_NoLetter = true)
    (zs_LeftError : PySem.W.subIn K (.ref c_LeftError) (.type "BaseException") = some true)
    (zd_LeftError : PySem.W.hasDictIn K c_LeftError = true)
    (zt_LeftError : PySem.W.typeIn K (.ref c_LeftError) = some (.type "type"))
    (zl_NoLetters : PySem.W.subIn K (.ref c_NoLetters) (.ref c_LeftError) = some true)
    (kk_NoLetters_NoFeed : PySem.W.kitOne K (.ref c_NoLetters) (.ref c_NoFeed) = some false)
    (kk_NoLetters_NoLetter : PySem.W.kitOne K (.ref c_NoLetters) (.ref c_NoLetter) = some false)
    (kk_NoLetters_NoMany : PySem.W.kitOne K (.ref c_NoLetters) (.ref c_NoMany) = some false)
    (kk_NoLetters_NoName : PySem.W.kitOne K (.ref c_NoLetters) (.ref c_NoName) = some false)
    (kk_NoLetters_NoTally : PySem.W.kitOne K (.ref c_NoLetters) (.ref c_NoTally) = some false)
    (kk_NoLetters_NoText : PySem.W.kitOne K (.ref c_NoLetters) (.ref c_NoText) = some false)
    (kk_NoLetters_NoLetters : PySem.W.kitOne K (.ref c_NoLetters) (.ref c_NoLetters) = some true)
    (zl_NoLetter : PySem.W.subIn K (.ref c_NoLetter) (.ref c_LeftError) = some true)
    (kk_NoLetter_NoFeed : PySem.W.kitOne K (.ref c_NoLetter) (.ref c_NoFeed) = some false)
    (kk_NoLetter_NoLetter : PySem.W.kitOne K (.ref c_NoLetter) (.ref c_NoLetter) = some true)
    (kk_NoLetter_NoMany : PySem.W.kitOne K (.ref c_NoLetter) (.ref c_NoMany) = some false)
    (kk_NoLetter_NoName : PySem.W.kitOne K (.ref c_NoLetter) (.ref c_NoName) = some false)
    (kk_NoLetter_NoTally : PySem.W.kitOne K (.ref c_NoLetter) (.ref c_NoTally) = some false)
    (kk_NoLetter_NoText : PySem.W.kitOne K (.ref c_NoLetter) (.ref c_NoText) = some false)
    (kk_NoLetter_NoLetters : PySem.W.kitOne K (.ref c_NoLetter) (.ref c_NoLetters) = some false)
    (kk_NoLetter_LeftError : PySem.W.kitOne K (.ref c_NoLetter) (.ref c_LeftError) = some true)
    (kk_None_NoFeed : PySem.W.kitOne K (.type "NoneType") (.ref c_NoFeed) = some false)
    (kk_None_NoLetter : PySem.W.kitOne K (.type "NoneType") (.ref c_NoLetter) = some false)
    (kk_None_NoMany : PySem.W.kitOne K (.type "NoneType") (.ref c_NoMany) = some false)
    (kk_None_NoName : PySem.W.kitOne K (.type "NoneType") (.ref c_NoName) = some false)
    (kk_None_NoTally : PySem.W.kitOne K (.type "NoneType") (.ref c_NoTally) = some false)
    (kk_None_NoText : PySem.W.kitOne K (.type "NoneType") (.ref c_NoText) = some false)
    (kk_None_NoLetters : PySem.W.kitOne K (.type "NoneType") (.ref c_NoLetters) = some false)
    (nn_Letters : PySem.W.findIn K (.ref c_Letters) "__ne__" = some (some (.builtin "object.__ne__"))) :
    ∃ fd : FuncData, (∀ (s : Shared) (v : Value), BindsTo s fd ⟨[v], []⟩ [("_law_script", v)]) ∧ ∀ base : Heap, K.In base → base.Ns mainGlobals mg → FnG l.prog w K mg base 6 fa fd ["_law_script"] (sp_law K) := by
  have e := hfa.symm.trans (PySem.W.mg_of X G a_law)
  cases e
  have F_NoLetter___init__ := fun_mk (st := s_NoLetter___init__) l_NoLetter___init__ c_NoLetter___init__ k_NoLetter___init__
  have F_is_letter := fun_mk (st := s_is_letter) l_is_letter c_is_letter k_is_letter
  have F_Letters___init__ := fun_mk (st := s_Letters___init__) l_Letters___init__ c_Letters___init__ k_Letters___init__
  have F_Letters___len__ := fun_mk (st := s_Letters___len__) l_Letters___len__ c_Letters___len__ k_Letters___len__
  have F_Letters_ranked := fun_mk (st := s_Letters_ranked) l_Letters_ranked c_Letters_ranked k_Letters_ranked
  have F_Letters___eq__ := fun_mk (st := s_Letters___eq__) l_Letters___eq__ c_Letters___eq__ k_Letters___eq__
  have F_Letters_names := fun_mk (st := s_Letters_names) l_Letters_names c_Letters_names k_Letters_names
  have F_Letters_has := fun_mk (st := s_Letters_has) l_Letters_has c_Letters_has k_Letters_has
  have F_Letters_rank := fun_mk (st := s_Letters_rank) l_Letters_rank c_Letters_rank k_Letters_rank
  have F__law_begun := fun_mk (st := s__law_begun) l__law_begun c__law_begun k__law_begun
  have F__law_draw := fun_mk (st := s__law_draw) l__law_draw c__law_draw k__law_draw
  have F__law_pick := fun_mk (st := s__law_pick) l__law_pick c__law_pick k__law_pick
  have F__law_names := fun_mk (st := s__law_names) l__law_names c__law_names k__law_names
  have F__law_is_letter := fun_mk (st := s__law_is_letter) l__law_is_letter c__law_is_letter k__law_is_letter
  have F__law_odd := fun_mk (st := s__law_odd) l__law_odd c__law_odd k__law_odd
  have F__law_bent := fun_mk (st := s__law_bent) l__law_bent c__law_bent k__law_bent
  have F__law_are_letters := fun_mk (st := s__law_are_letters) l__law_are_letters c__law_are_letters k__law_are_letters
  have F__law_rank_refused := fun_mk (st := s__law_rank_refused) l__law_rank_refused c__law_rank_refused k__law_rank_refused
  have F__law_told_right := fun_mk (st := s__law_told_right) l__law_told_right c__law_told_right k__law_told_right
  have F__law_alike_right := fun_mk (st := s__law_alike_right) l__law_alike_right c__law_alike_right k__law_alike_right
  have F__law_made := fun_mk (st := s__law_made) l__law_made c__law_made k__law_made
  have F_law := fun_mk (st := s_law) l_law c_law k_law
  have re_NoLetters : BX.ErrC K (cErr K "NoLetters") := by
    rw [cErr_of ac_NoLetters]
    exact ⟨xk_NoLetters, xq_NoLetters, xs_NoLetters, xt_NoLetters, BX.exm_self xs_NoLetters xi_NoLetters xt_NoLetters xu_NoLetters, ⟨xg_NoLetters, xh_NoLetters, xs_NoLetters, xd_NoLetters, xa_NoLetters, xn_NoLetters, xw_NoLetters, xm_NoLetters⟩, BX.kit_ve (by decide +kernel) xv_NoLetters⟩
  let T : Tx K mg := {
    m_isinstance := PySem.W.mg_none_of X G z_isinstance
    m_str := PySem.W.mg_none_of X G z_str
    m_len := PySem.W.mg_none_of X G z_len
    m_all := PySem.W.mg_none_of X G z_all
    m_list := PySem.W.mg_none_of X G z_list
    m_tuple := PySem.W.mg_none_of X G z_tuple
    m_set := PySem.W.mg_none_of X G z_set
    m_enumerate := PySem.W.mg_none_of X G z_enumerate
    m_sorted := PySem.W.mg_none_of X G z_sorted
    m_abs := PySem.W.mg_none_of X G z_abs
    m_range := PySem.W.mg_none_of X G z_range
    m_repr := PySem.W.mg_none_of X G z_repr
    m_any := PySem.W.mg_none_of X G z_any
    m_ValueError := PySem.W.mg_none_of X G z_ValueError
    m_bool := PySem.W.mg_none_of X G z_bool
    f_NoLetter___init__ := f_NoLetter___init__
    d_NoLetter___init__ := _
    F_NoLetter___init__ := F_NoLetter___init__
    b_NoLetter___init__ := F_NoLetter___init__.binds (ps := ["self", "name"]) fun _ _ _ _ _ _ us hl => match us, hl with | [_, _], _ => rfl
    f_is_letter := f_is_letter
    d_is_letter := _
    F_is_letter := F_is_letter
    b_is_letter := F_is_letter.binds (ps := ["thing"]) fun _ _ _ _ _ _ us hl => match us, hl with | [_], _ => rfl
    g_is_letter := PySem.W.mg_of X G a_is_letter
    f_Letters___init__ := f_Letters___init__
    d_Letters___init__ := _
    F_Letters___init__ := F_Letters___init__
    b_Letters___init__ := F_Letters___init__.binds (ps := ["self", "names"]) fun _ _ _ _ _ _ us hl => match us, hl with | [_, _], _ => rfl
    f_Letters___len__ := f_Letters___len__
    d_Letters___len__ := _
    F_Letters___len__ := F_Letters___len__
    b_Letters___len__ := F_Letters___len__.binds (ps := ["self"]) fun _ _ _ _ _ _ us hl => match us, hl with | [_], _ => rfl
    f_Letters_ranked := f_Letters_ranked
    d_Letters_ranked := _
    F_Letters_ranked := F_Letters_ranked
    b_Letters_ranked := F_Letters_ranked.binds (ps := ["self"]) fun _ _ _ _ _ _ us hl => match us, hl with | [_], _ => rfl
    f_Letters___eq__ := f_Letters___eq__
    d_Letters___eq__ := _
    F_Letters___eq__ := F_Letters___eq__
    b_Letters___eq__ := F_Letters___eq__.binds (ps := ["self", "other"]) fun _ _ _ _ _ _ us hl => match us, hl with | [_, _], _ => rfl
    f_Letters_names := f_Letters_names
    d_Letters_names := _
    F_Letters_names := F_Letters_names
    b_Letters_names := F_Letters_names.binds (ps := ["self"]) fun _ _ _ _ _ _ us hl => match us, hl with | [_], _ => rfl
    f_Letters_has := f_Letters_has
    d_Letters_has := _
    F_Letters_has := F_Letters_has
    b_Letters_has := F_Letters_has.binds (ps := ["self", "thing"]) fun _ _ _ _ _ _ us hl => match us, hl with | [_, _], _ => rfl
    f_Letters_rank := f_Letters_rank
    d_Letters_rank := _
    F_Letters_rank := F_Letters_rank
    b_Letters_rank := F_Letters_rank.binds (ps := ["self", "name"]) fun _ _ _ _ _ _ us hl => match us, hl with | [_, _], _ => rfl
    f__law_begun := f__law_begun
    d__law_begun := _
    F__law_begun := F__law_begun
    b__law_begun := F__law_begun.binds (ps := ["_law_script"]) fun _ _ _ _ _ _ us hl => match us, hl with | [_], _ => rfl
    g__law_begun := PySem.W.mg_of X G a__law_begun
    f__law_draw := f__law_draw
    d__law_draw := _
    F__law_draw := F__law_draw
    b__law_draw := F__law_draw.binds (ps := ["_law_state", "_law_many"]) fun _ _ _ _ _ _ us hl => match us, hl with | [_, _], _ => rfl
    g__law_draw := PySem.W.mg_of X G a__law_draw
    f__law_pick := f__law_pick
    d__law_pick := _
    F__law_pick := F__law_pick
    b__law_pick := F__law_pick.binds (ps := ["_law_state", "_law_some"]) fun _ _ _ _ _ _ us hl => match us, hl with | [_, _], _ => rfl
    g__law_pick := PySem.W.mg_of X G a__law_pick
    f__law_names := f__law_names
    d__law_names := _
    F__law_names := F__law_names
    b__law_names := F__law_names.binds (ps := ["_law_state", "_law_many"]) fun _ _ _ _ _ _ us hl => match us, hl with | [_, _], _ => rfl
    g__law_names := PySem.W.mg_of X G a__law_names
    f__law_is_letter := f__law_is_letter
    d__law_is_letter := _
    F__law_is_letter := F__law_is_letter
    b__law_is_letter := F__law_is_letter.binds (ps := ["_law_matter"]) fun _ _ _ _ _ _ us hl => match us, hl with | [_], _ => rfl
    g__law_is_letter := PySem.W.mg_of X G a__law_is_letter
    f__law_odd := f__law_odd
    d__law_odd := _
    F__law_odd := F__law_odd
    b__law_odd := F__law_odd.binds (ps := ["_law_state", "_law_word"]) fun _ _ _ _ _ _ us hl => match us, hl with | [_, _], _ => rfl
    g__law_odd := PySem.W.mg_of X G a__law_odd
    f__law_bent := f__law_bent
    d__law_bent := _
    F__law_bent := F__law_bent
    b__law_bent := F__law_bent.binds (ps := ["_law_state", "_law_words"]) fun _ _ _ _ _ _ us hl => match us, hl with | [_, _], _ => rfl
    g__law_bent := PySem.W.mg_of X G a__law_bent
    f__law_are_letters := f__law_are_letters
    d__law_are_letters := _
    F__law_are_letters := F__law_are_letters
    b__law_are_letters := F__law_are_letters.binds (ps := ["_law_matter"]) fun _ _ _ _ _ _ us hl => match us, hl with | [_], _ => rfl
    g__law_are_letters := PySem.W.mg_of X G a__law_are_letters
    f__law_rank_refused := f__law_rank_refused
    d__law_rank_refused := _
    F__law_rank_refused := F__law_rank_refused
    b__law_rank_refused := F__law_rank_refused.binds (ps := ["_law_told", "_law_matter"]) fun _ _ _ _ _ _ us hl => match us, hl with | [_, _], _ => rfl
    g__law_rank_refused := PySem.W.mg_of X G a__law_rank_refused
    f__law_told_right := f__law_told_right
    d__law_told_right := _
    F__law_told_right := F__law_told_right
    b__law_told_right := F__law_told_right.binds (ps := ["_law_state", "_law_told", "_law_words"]) fun _ _ _ _ _ _ us hl => match us, hl with | [_, _, _], _ => rfl
    g__law_told_right := PySem.W.mg_of X G a__law_told_right
    f__law_alike_right := f__law_alike_right
    d__law_alike_right := _
    F__law_alike_right := F__law_alike_right
    b__law_alike_right := F__law_alike_right.binds (ps := ["_law_told", "_law_words"]) fun _ _ _ _ _ _ us hl => match us, hl with | [_, _], _ => rfl
    g__law_alike_right := PySem.W.mg_of X G a__law_alike_right
    f__law_made := f__law_made
    d__law_made := _
    F__law_made := F__law_made
    b__law_made := F__law_made.binds (ps := ["_law_matter"]) fun _ _ _ _ _ _ us hl => match us, hl with | [_], _ => rfl
    g__law_made := PySem.W.mg_of X G a__law_made
    f_law := fa
    d_law := _
    F_law := F_law
    K_Letters := ⟨mk_Letters, t_Letters___init__, i_Letters___init__, kc_Letters⟩
    M_Letters___len__ := ⟨t_Letters___len__, i_Letters___len__, k_Letters___len__⟩
    M_Letters___eq__ := ⟨t_Letters___eq__, i_Letters___eq__, k_Letters___eq__⟩
    M_Letters_names := ⟨t_Letters_names, i_Letters_names, k_Letters_names⟩
    M_Letters_ranked := ⟨t_Letters_ranked, i_Letters_ranked, k_Letters_ranked⟩
    M_Letters_has := ⟨t_Letters_has, i_Letters_has, k_Letters_has⟩
    M_Letters_rank := ⟨t_Letters_rank, i_Letters_rank, k_Letters_rank⟩
    c_Letters := c_Letters
    g_Letters := PySem.W.mg_of X G ac_Letters
    rc_Letters := ⟨⟨⟨pg_Letters, hd_Letters, po_Letters, sa_Letters⟩, ia_Letters, ib_Letters, ic_Letters, id_Letters, ie_Letters⟩, n_ranks_Letters⟩
    nk_Letters := ⟨nk_Letters_0, nk_Letters_1, nk_Letters_2, nk_Letters_3, nk_Letters_4⟩
    ns_Letters := ⟨ns_Letters_0, ns_Letters_1, ns_Letters_2, ns_Letters_3, ns_Letters_4⟩
    g_LeftError := by
      rw [cErr_of ac_LeftError]
      exact PySem.W.mg_of X G ac_LeftError
    g_NoFeed := by
      rw [cErr_of ac_NoFeed]
      exact PySem.W.mg_of X G ac_NoFeed
    g_NoLetter := by
      rw [cErr_of ac_NoLetter]
      exact PySem.W.mg_of X G ac_NoLetter
    g_NoLetters := by
      rw [cErr_of ac_NoLetters]
      exact PySem.W.mg_of X G ac_NoLetters
    g_NoMany := by
      rw [cErr_of ac_NoMany]
      exact PySem.W.mg_of X G ac_NoMany
    g_NoName := by
      rw [cErr_of ac_NoName]
      exact PySem.W.mg_of X G ac_NoName
    g_NoTally := by
      rw [cErr_of ac_NoTally]
      exact PySem.W.mg_of X G ac_NoTally
    g_NoText := by
      rw [cErr_of ac_NoText]
      exact PySem.W.mg_of X G ac_NoText
    rc_NoLetters := re_NoLetters
    ri_NoLetter := by
      rw [cErr_of ac_NoLetter]
      exact BE.oex_mk yo_NoLetter ya_NoLetter xs_NoLetter xt_NoLetter xk_NoLetter
    ii_NoLetter := by
      rw [cErr_of ac_NoLetter]
      exact t_NoLetter___init__
    ti_NoLetter := yt_NoLetter
    xo_NoLetter_name := by
      rw [cErr_of ac_NoLetter]
      exact yf_name_NoLetter
    xe_NoLetter := by
      rw [cErr_of ac_NoLetter]
      exact PySem.W.exm_ref xs_NoLetter xd_NoLetter xt_NoLetter xu_NoLetter
    xf_NoLetter := by
      rw [cErr_of ac_NoLetter]
      exact xfB_ok yx_NoLetter
    rf_NoLetters := ⟨by
      rw [cErr_of ac_NoLetters]
      exact ⟨xg_NoLetters, xh_NoLetters, xs_NoLetters, xd_NoLetters, xa_NoLetters, xn_NoLetters, xw_NoLetters, xm_NoLetters⟩, by rw [cErr_of ac_NoLetters]; exact BX.kit_ve (by decide +kernel) xv_NoLetters, by rw [cErr_of ac_NoLetters, cErr_of ac_LeftError]; exact PySem.W.exm_ref zs_LeftError zd_LeftError zt_LeftError zl_NoLetters, refd_mk ["NoFeed", "NoLetter", "NoMany", "NoName", "NoTally", "NoText", "NoLetters"] ⟨by rw [cErr_of ac_NoLetters, cErr_of ac_NoFeed]; exact kk_NoLetters_NoFeed.trans (by decide +kernel), by rw [cErr_of ac_NoLetters, cErr_of ac_NoLetter]; exact kk_NoLetters_NoLetter.trans (by decide +kernel), by rw [cErr_of ac_NoLetters, cErr_of ac_NoMany]; exact kk_NoLetters_NoMany.trans (by decide +kernel), by rw [cErr_of ac_NoLetters, cErr_of ac_NoName]; exact kk_NoLetters_NoName.trans (by decide +kernel), by rw [cErr_of ac_NoLetters, cErr_of ac_NoTally]; exact kk_NoLetters_NoTally.trans (by decide +kernel), by rw [cErr_of ac_NoLetters, cErr_of ac_NoText]; exact kk_NoLetters_NoText.trans (by decide +kernel), by rw [cErr_of ac_NoLetters]; exact kk_NoLetters_NoLetters.trans (by decide +kernel), trivial⟩⟩
    rf_NoLetter := ⟨by
      rw [cErr_of ac_NoLetter]
      exact ⟨xg_NoLetter, xh_NoLetter, xs_NoLetter, xd_NoLetter, xa_NoLetter, xn_NoLetter, xw_NoLetter, xm_NoLetter⟩, by rw [cErr_of ac_NoLetter]; exact BX.kit_ve (by decide +kernel) xv_NoLetter, by rw [cErr_of ac_NoLetter, cErr_of ac_LeftError]; exact PySem.W.exm_ref zs_LeftError zd_LeftError zt_LeftError zl_NoLetter, refd_mk ["NoFeed", "NoLetter", "NoMany", "NoName", "NoTally", "NoText", "NoLetters"] ⟨by rw [cErr_of ac_NoLetter, cErr_of ac_NoFeed]; exact kk_NoLetter_NoFeed.trans (by decide +kernel), by rw [cErr_of ac_NoLetter]; exact kk_NoLetter_NoLetter.trans (by decide +kernel), by rw [cErr_of ac_NoLetter, cErr_of ac_NoMany]; exact kk_NoLetter_NoMany.trans (by decide +kernel), by rw [cErr_of ac_NoLetter, cErr_of ac_NoName]; exact kk_NoLetter_NoName.trans (by decide +kernel), by rw [cErr_of ac_NoLetter, cErr_of ac_NoTally]; exact kk_NoLetter_NoTally.trans (by decide +kernel), by rw [cErr_of ac_NoLetter, cErr_of ac_NoText]; exact kk_NoLetter_NoText.trans (by decide +kernel), by rw [cErr_of ac_NoLetter, cErr_of ac_NoLetters]; exact kk_NoLetter_NoLetters.trans (by decide +kernel), trivial⟩⟩
    kl_NoLetter := by
      rw [cErr_of ac_NoLetter, cErr_of ac_LeftError]
      exact kk_NoLetter_LeftError
    kn_NoFeed := by
      rw [cErr_of ac_NoFeed]
      exact kk_None_NoFeed
    kn_NoLetter := by
      rw [cErr_of ac_NoLetter]
      exact kk_None_NoLetter
    kn_NoMany := by
      rw [cErr_of ac_NoMany]
      exact kk_None_NoMany
    kn_NoName := by
      rw [cErr_of ac_NoName]
      exact kk_None_NoName
    kn_NoTally := by
      rw [cErr_of ac_NoTally]
      exact kk_None_NoTally
    kn_NoText := by
      rw [cErr_of ac_NoText]
      exact kk_None_NoText
    kn_NoLetters := by
      rw [cErr_of ac_NoLetters]
      exact kk_None_NoLetters
    ne_Letters := nn_Letters
    kn_Letters___init___1_names := kbn_mk (l := [0]) F_Letters___init__ fun _ _ _ _ _ _ us ws h1 h2 => match us, ws, h1, h2 with | [_], [_], _, _ => rfl
    km_Letters_rank_name := kwm_mk F_Letters_rank fun _ _ _ _ _ _ _ us hl => match us, hl with | [_], _ => rfl
    kb_is_letter_thing := kwb_mk F_is_letter fun _ _ _ _ _ _ us hl => match us, hl with | [_], _ => rfl }
  exact ⟨T.d_law, fun s v => .of_eq rfl, fun base _ _ => ok_law T⟩
theorem walk {l : PySem.W.OpenLaw} {q : Program} {loose : List Str} {XP : (Str → Option Value) → Heap → Prop} {YP : World → Heap → Prop} {d : DefRec} {K : Params → PySem.W.Frag} (hn : l.most = some 63) (hdf : d.params.defaults = [])
    (hY : ∀ (w : World) (h : Heap), YP w h → (K w.params).In h)
    (F : ∀ (w : World) (mg : Str → Option Value) (fa : Addr) (h : Heap), (K w.params).In h → h.Ns mainGlobals mg → mg d.name = some (.ref fa) →
      ∃ fd : FuncData, (∀ (s : Shared) (u : Value), BindsTo s fd ⟨[u], []⟩ [("_law_script", u)]) ∧ ∀ base : Heap, (K w.params).In base → base.Ns mainGlobals mg → FnG l.prog w (K w.params) mg base 6 fa fd ["_law_script"] (sp_law (K w.params))) :
    PySem.W.WalkO q loose XP YP l.row.toRowW d [] (fun f vs => PySem.call f vs) :=
  walkG (n := 63) (k := 6) (x := "_law_script") (sp := fun w => sp_law (K w.params)) hn (by decide) hdf ⟨rfl, by decide, by decide⟩ hY F (fun _ _ a ns hl _ hS => law_in a ns hl hS)

end B
open PySem PySem.W PyProof.Rows
set_option maxRecDepth 100000 in
set_option maxHeartbeats 0 in
theorem PySem.Challenge.cw_bygone_k01_letters_known_holds : PySem.Challenge.rw_bygone_k01_letters_known.Holds := by
  w_on; o_law; k_head; (case hw => w_witness2)
  k_fill
  refine B.walk (l := PySem.Challenge.rw_bygone_k01_letters_known) rfl rfl (fun w h Y => PySem.W.kIn_of Y) ?F
  case F =>
    intro w mg fa h KX G hmg
    refine' B.all_mk KX G hmg ?z_isinstance ?z_str ?z_len ?z_all ?z_list ?z_tuple ?z_set ?z_enumerate ?z_sorted ?z_abs ?z_range ?z_repr ?z_any ?z_ValueError ?z_bool ?l_NoLetter___init__ ?c_NoLetter___init__ ?k_NoLetter___init__ ?a_is_letter ?l_is_letter ?c_is_letter ?k_is_letter ?l_Letters___init__ ?c_Letters___init__ ?k_Letters___init__ ?l_Letters___len__ ?c_Letters___len__ ?k_Letters___len__ ?l_Letters_ranked ?c_Letters_ranked ?k_Letters_ranked ?l_Letters___eq__ ?c_Letters___eq__ ?k_Letters___eq__ ?l_Letters_names ?c_Letters_names ?k_Letters_names ?l_Letters_has ?c_Letters_has ?k_Letters_has ?l_Letters_rank ?c_Letters_rank ?k_Letters_rank ?a__law_begun ?l__law_begun ?c__law_begun ?k__law_begun ?a__law_draw ?l__law_draw ?c__law_draw ?k__law_draw ?a__law_pick ?l__law_pick ?c__law_pick ?k__law_pick ?a__law_names ?l__law_names ?c__law_names ?k__law_names ?a__law_is_letter ?l__law_is_letter ?c__law_is_letter ?k__law_is_letter ?a__law_odd ?l__law_odd ?c__law_odd ?k__law_odd ?a__law_bent ?l__law_bent ?c__law_bent ?k__law_bent ?a__law_are_letters ?l__law_are_letters ?c__law_are_letters ?k__law_are_letters ?a__law_rank_refused ?l__law_rank_refused ?c__law_rank_refused ?k__law_rank_refused ?a__law_told_right ?l__law_told_right ?c__law_told_right ?k__law_told_right ?a__law_alike_right ?l__law_alike_right ?c__law_alike_right ?k__law_alike_right ?a__law_made ?l__law_made ?c__law_made ?k__law_made ?a_law ?l_law ?c_law ?k_law ?ac_Letters ?pg_Letters ?hd_Letters ?po_Letters ?sa_Letters ?mk_Letters ?kc_Letters ?ia_Letters ?ib_Letters ?ic_Letters ?id_Letters ?ie_Letters ?n_ranks_Letters ?t_Letters___init__ ?i_Letters___init__ ?t_Letters___len__ ?i_Letters___len__ ?t_Letters___eq__ ?i_Letters___eq__ ?t_Letters_names ?i_Letters_names ?t_Letters_ranked ?i_Letters_ranked ?t_Letters_has ?i_Letters_has ?t_Letters_rank ?i_Letters_rank ?nk_Letters_0 ?nk_Letters_1 ?nk_Letters_2 ?nk_Letters_3 ?nk_Letters_4 ?ns_Letters_0 ?ns_Letters_1 ?ns_Letters_2 ?ns_Letters_3 ?ns_Letters_4 ?ac_LeftError ?ac_NoFeed ?ac_NoLetter ?ac_NoLetters ?ac_NoMany ?ac_NoName ?ac_NoTally ?ac_NoText ?xk_NoLetters ?xq_NoLetters ?xs_NoLetters ?xt_NoLetters ?xi_NoLetters ?xu_NoLetters ?xg_NoLetters ?xh_NoLetters ?xd_NoLetters ?xa_NoLetters ?xn_NoLetters ?xw_NoLetters ?xm_NoLetters ?xv_NoLetters ?xk_NoLetter ?xs_NoLetter ?xt_NoLetter ?xg_NoLetter ?xh_NoLetter ?xd_NoLetter ?xa_NoLetter ?xn_NoLetter ?xw_NoLetter ?xm_NoLetter ?xv_NoLetter ?yo_NoLetter ?ya_NoLetter ?t_NoLetter___init__ ?yt_NoLetter ?yf_name_NoLetter ?xu_NoLetter ?yx_NoLetter ?zs_LeftError ?zd_LeftError ?zt_LeftError ?zl_NoLetters ?kk_NoLetters_NoFeed ?kk_NoLetters_NoLetter ?kk_NoLetters_NoMany ?kk_NoLetters_NoName ?kk_NoLetters_NoTally ?kk_NoLetters_NoText ?kk_NoLetters_NoLetters ?zl_NoLetter ?kk_NoLetter_NoFeed ?kk_NoLetter_NoLetter ?kk_NoLetter_NoMany ?kk_NoLetter_NoName ?kk_NoLetter_NoTally ?kk_NoLetter_NoText ?kk_NoLetter_NoLetters ?kk_NoLetter_LeftError ?kk_None_NoFeed ?kk_None_NoLetter ?kk_None_NoMany ?kk_None_NoName ?kk_None_NoTally ?kk_None_NoText ?kk_None_NoLetters ?nn_Letters
    (case z_isinstance => k_is)
    (case z_str => k_is)
    (case z_len => k_is)
    (case z_all => k_is)
    (case z_list => k_is)
    (case z_tuple => k_is)
    (case z_set => k_is)
    (case z_enumerate => k_is)
    (case z_sorted => k_is)
    (case z_abs => k_is)
    (case z_range => k_is)
    (case z_repr => k_is)
    (case z_any => k_is)
    (case z_ValueError => k_is)
    (case z_bool => k_is)
    (case ac_Letters => k_is)
    (case ac_LeftError => k_is)
    (case ac_NoFeed => k_is)
    (case ac_NoLetter => k_is)
    (case ac_NoLetters => k_is)
    (case ac_NoMany => k_is)
    (case ac_NoName => k_is)
    (case ac_NoTally => k_is)
    (case ac_NoText => k_is)
    (case t_Letters___init__ => k_is)
    (case t_Letters___len__ => k_is)
    (case t_Letters___eq__ => k_is)
    (case t_Letters_names => k_is)
    (case t_Letters_ranked => k_is)
    (case t_Letters_has => k_is)
    (case t_Letters_rank => k_is)
    (case t_NoLetter___init__ => k_is)
    (case a_is_letter => k_is)
    (case a__law_begun => k_is)
    (case a__law_draw => k_is)
    (case a__law_pick => k_is)
    (case a__law_names => k_is)
    (case a__law_is_letter => k_is)
    (case a__law_odd => k_is)
    (case a__law_bent => k_is)
    (case a__law_are_letters => k_is)
    (case a__law_rank_refused => k_is)
    (case a__law_told_right => k_is)
    (case a__law_alike_right => k_is)
    (case a__law_made => k_is)
    (case a_law => k_is)
    (case l_NoLetter___init__ => k_is)
    (case c_NoLetter___init__ => k_is)
    (case k_NoLetter___init__ => k_is)
    (case l_is_letter => k_is)
    (case c_is_letter => k_is)
    (case k_is_letter => k_is)
    (case l_Letters___init__ => k_is)
    (case c_Letters___init__ => k_is)
    (case k_Letters___init__ => k_is)
    (case l_Letters___len__ => k_is)
    (case c_Letters___len__ => k_is)
    (case k_Letters___len__ => k_is)
    (case l_Letters_ranked => k_is)
    (case c_Letters_ranked => k_is)
    (case k_Letters_ranked => k_is)
    (case l_Letters___eq__ => k_is)
    (case c_Letters___eq__ => k_is)
    (case k_Letters___eq__ => k_is)
    (case l_Letters_names => k_is)
    (case c_Letters_names => k_is)
    (case k_Letters_names => k_is)
    (case l_Letters_has => k_is)
    (case c_Letters_has => k_is)
    (case k_Letters_has => k_is)
    (case l_Letters_rank => k_is)
    (case c_Letters_rank => k_is)
    (case k_Letters_rank => k_is)
    (case l__law_begun => k_is)
    (case c__law_begun => k_is)
    (case k__law_begun => k_is)
    (case l__law_draw => k_is)
    (case c__law_draw => k_is)
    (case k__law_draw => k_is)
    (case l__law_pick => k_is)
    (case c__law_pick => k_is)
    (case k__law_pick => k_is)
    (case l__law_names => k_is)
    (case c__law_names => k_is)
    (case k__law_names => k_is)
    (case l__law_is_letter => k_is)
    (case c__law_is_letter => k_is)
    (case k__law_is_letter => k_is)
    (case l__law_odd => k_is)
    (case c__law_odd => k_is)
    (case k__law_odd => k_is)
    (case l__law_bent => k_is)
    (case c__law_bent => k_is)
    (case k__law_bent => k_is)
    (case l__law_are_letters => k_is)
    (case c__law_are_letters => k_is)
    (case k__law_are_letters => k_is)
    (case l__law_rank_refused => k_is)
    (case c__law_rank_refused => k_is)
    (case k__law_rank_refused => k_is)
    (case l__law_told_right => k_is)
    (case c__law_told_right => k_is)
    (case k__law_told_right => k_is)
    (case l__law_alike_right => k_is)
    (case c__law_alike_right => k_is)
    (case k__law_alike_right => k_is)
    (case l__law_made => k_is)
    (case c__law_made => k_is)
    (case k__law_made => k_is)
    (case l_law => k_is)
    (case c_law => k_is)
    (case k_law => k_is)
    (case pg_Letters => k_is)
    (case hd_Letters => k_is)
    (case po_Letters => k_is)
    (case sa_Letters => k_is)
    (case mk_Letters => k_is)
    (case kc_Letters => k_is)
    (case ia_Letters => k_is)
    (case ib_Letters => k_is)
    (case ic_Letters => k_is)
    (case id_Letters => k_is)
    (case ie_Letters => exact if_pos (beq_self_eq_true _))
    (case n_ranks_Letters => k_is)
    (case i_Letters___init__ => k_is)
    (case i_Letters___len__ => k_is)
    (case i_Letters___eq__ => k_is)
    (case i_Letters_names => k_is)
    (case i_Letters_ranked => k_is)
    (case i_Letters_has => k_is)
    (case i_Letters_rank => k_is)
    (case nk_Letters_0 => kit_is)
    (case nk_Letters_1 => kit_is)
    (case nk_Letters_2 => kit_is)
    (case nk_Letters_3 => kit_is)
    (case nk_Letters_4 => kit_is)
    (case ns_Letters_0 => k_is)
    (case ns_Letters_1 => k_is)
    (case ns_Letters_2 => k_is)
    (case ns_Letters_3 => k_is)
    (case ns_Letters_4 => k_is)
    (case xk_NoLetters => k_is)
    (case xq_NoLetters => k_exc)
    (case xs_NoLetters => k_is)
    (case xt_NoLetters => k_is)
    (case xi_NoLetters => k_is)
    (case xu_NoLetters => first | rfl | k_is)
    (case xg_NoLetters => k_is)
    (case xh_NoLetters => k_is)
    (case xd_NoLetters => k_is)
    (case xa_NoLetters => k_is)
    (case xn_NoLetters => k_is)
    (case xw_NoLetters => k_is)
    (case xm_NoLetters => k_is)
    (case xv_NoLetters => k_is)
    (case xk_NoLetter => k_is)
    (case xs_NoLetter => k_is)
    (case xt_NoLetter => k_is)
    (case xg_NoLetter => k_is)
    (case xh_NoLetter => k_is)
    (case xd_NoLetter => k_is)
    (case xa_NoLetter => k_is)
    (case xn_NoLetter => k_is)
    (case xw_NoLetter => k_is)
    (case xm_NoLetter => k_is)
    (case xv_NoLetter => k_is)
    (case yo_NoLetter => kernel_rfl)
    (case ya_NoLetter => k_is)
    (case yt_NoLetter => k_is)
    (case yf_name_NoLetter => k_is)
    (case xu_NoLetter => first | rfl | k_is)
    (case yx_NoLetter => kernel_rfl)
    (case zs_LeftError => k_is)
    (case zd_LeftError => k_is)
    (case zt_LeftError => k_is)
    (case zl_NoLetters => k_is)
    (case kk_NoLetters_NoFeed => kit_is)
    (case kk_NoLetters_NoLetter => kit_is)
    (case kk_NoLetters_NoMany => kit_is)
    (case kk_NoLetters_NoName => kit_is)
    (case kk_NoLetters_NoTally => kit_is)
    (case kk_NoLetters_NoText => kit_is)
    (case kk_NoLetters_NoLetters => kit_is)
    (case zl_NoLetter => k_is)
    (case kk_NoLetter_NoFeed => kit_is)
    (case kk_NoLetter_NoLetter => kit_is)
    (case kk_NoLetter_NoMany => kit_is)
    (case kk_NoLetter_NoName => kit_is)
    (case kk_NoLetter_NoTally => kit_is)
    (case kk_NoLetter_NoText => kit_is)
    (case kk_NoLetter_NoLetters => kit_is)
    (case kk_NoLetter_LeftError => kit_is)
    (case kk_None_NoFeed => kit_is)
    (case kk_None_NoLetter => kit_is)
    (case kk_None_NoMany => kit_is)
    (case kk_None_NoName => kit_is)
    (case kk_None_NoTally => kit_is)
    (case kk_None_NoText => kit_is)
    (case kk_None_NoLetters => kit_is)
    (case nn_Letters => k_is)
