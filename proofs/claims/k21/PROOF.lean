import PyProof.Rows.All
import Wide.All
import OpenK.AllK
import Wide.FinOn
import HandS.ForMost
import HandS.Evl
import HandS.IsInst
import HandS.Style
import HandS.SortInts
import HandS.ListItems
import HandS.DictComp
import KE.DatumMoreOrd
import KE.DatumIndex
import KE.GoesZip
import KE.GoesMore
import KE.KTupSum
import KE.KDictSum
import HandS.Zip
import HandS.SortKw
import HandS.TupMul
import HandS.SetKeys
import HandS.Conv
import HandS.TupAny
import PySem.Challenge.RW_bygone_k21_whole_sums_of_sets
set_option Elab.async false
set_option linter.all false
set_option maxRecDepth 100000
set_option maxHeartbeats 4000000
/-! B: worlds (an unchanging part of the heap within the heap), data read off the unchanging part, what a reading evaluates to -/
namespace B
open PySem L2
abbrev SS := L2.St
abbrev Fg := PySem.W.Frag
open Evl (Ex)
open PySem.W (Tup T3 T4 Datum DatumOrd)

/-! ### heaps -/
/-- all is kept, but that a dict may be locked -/
def Ext (H H' : Hp) : Prop := ∀ a o, H a = some o → H' a = some o ∨ ((∃ kvs, o = HO.dK kvs) ∧ ∃ ob, H' a = some (.frz ob o))
theorem Ext.refl (H : Hp) : Ext H H := fun _ _ h => .inl h
theorem exExt {H H' : Hp} (e : Ex H H') : Ext H H' := fun a o h => .inl (e a o h)
theorem Ext.trans {H H1 H2 : Hp} (a : Ext H H1) (b : Ext H1 H2) : Ext H H2 := fun x o h => by
  rcases a x o h with h1 | ⟨⟨k, rfl⟩, ob, h1⟩
  · exact b x o h1
  · rcases b x _ h1 with h2 | ⟨⟨k', h2⟩, _⟩
    · exact .inr ⟨⟨k, rfl⟩, ob, h2⟩
    · cases h2
theorem Ext.rd {H H' : Hp} {a : Addr} {u : HO} (e : Ext H H') (h : Rd H a u) : Rd H' a u := by
  rcases h with h | ⟨o, h⟩
  · rcases e a _ h with h1 | ⟨_, ob, h1⟩
    · exact .inl h1
    · exact .inr ⟨ob, h1⟩
  · rcases e a _ h with h1 | ⟨⟨k, h1⟩, _⟩
    · exact .inr ⟨o, h1⟩
    · cases h1
theorem Ext.free {H H' : Hp} {p : Addr} (e : Ext H H') (h : H' p = none) : H p = none := by
  cases q : H p with
  | none => rfl
  | some o => rcases e p o q with h1 | ⟨_, ob, h1⟩ <;> (rw [h] at h1; cases h1)
theorem Ext.l {K : Fg} {H H' : Hp} {a : Addr} {xs : List V} (e : Ext H H') (h : SqL K H a xs) : SqL K H' a xs := by
  rcases h with h | h
  · exact .inl (e.rd h)
  · exact .inr h
theorem Ext.t {K : Fg} {H H' : Hp} {a : Addr} {xs : List V} (e : Ext H H') (h : SqT K H a xs) : SqT K H' a xs := by
  rcases h with h | h
  · exact .inl (e.rd h)
  · exact .inr h
theorem Ext.el {H H' : Hp} {a : Addr} {xs : List V} (e : Ext H H') (h : H a = some (.lst xs)) : H' a = some (.lst xs) := by
  rcases e a _ h with h1 | ⟨⟨_, q⟩, _⟩
  · exact h1
  · cases q
theorem Ext.et {H H' : Hp} {a : Addr} {xs : List V} (e : Ext H H') (h : H a = some (.tup xs)) : H' a = some (.tup xs) := by
  rcases e a _ h with h1 | ⟨⟨_, q⟩, _⟩
  · exact h1
  · cases q
theorem Ext.ins {H H' : Hp} {a C dx : Addr} {fs : List (Str × V)} (e : Ext H H') (h : H a = some (.ins C dx fs)) : H' a = some (.ins C dx fs) := by
  rcases e a _ h with h1 | ⟨⟨_, q⟩, _⟩
  · exact h1
  · cases q
theorem Ext.lock {H : Hp} {d : Addr} {kvs : List (Key × V)} {od : Obj} (h : H d = some (.dK kvs)) : Ext H (upd H d (.frz od (.dK kvs))) := fun a o e => by
  by_cases q : a = d
  · subst q
    rw [h] at e; cases e
    exact .inr ⟨⟨kvs, rfl⟩, od, upd_same⟩
  · exact .inl (by rw [upd_ne q]; exact e)

/-- a world: the heap H, within it the part B that stays as it is -/
structure Wd where
  B : Hp
  H : Hp
  sub : Ext B H
/-- a thing that is no tuple stands at a -/
def Nt (H : Hp) (a : Addr) : Prop := ∃ o, H a = some o ∧ ∀ xs, o ≠ .tup xs
theorem Nt.ne {H : Hp} {a : Addr} (h : Nt H a) : H a ≠ none := by
  obtain ⟨o, e, _⟩ := h
  rw [e]; exact fun z => by cases z
theorem Nt.l {H : Hp} {a : Addr} {xs : List V} (h : H a = some (.lst xs)) : Nt H a := ⟨_, h, fun _ z => by cases z⟩
theorem Nt.k {H : Hp} {a : Addr} {xs : List (Key × V)} (h : H a = some (.dK xs)) : Nt H a := ⟨_, h, fun _ z => by cases z⟩
/-- the world has moved on: what stays is as it was (and no more of it is locked), of the rest only S may have changed; what was free to change still is -/
structure Md (S : List Addr) (W W' : Wd) : Prop where
  b : Ex W.B W'.B
  l : ∀ a o, W.B a = some o → W.H a = some o → W'.H a = some o
  o : ∀ a o, a ∉ S → W.H a = some o → W'.H a = some o
  m : ∀ a, Nt W.H a → W'.B a = W.B a
  d : ∀ a, W.H a ≠ none → W'.H a ≠ none
  n : ∀ a, Nt W.H a → Nt W'.H a
theorem Md.refl (S : List Addr) (W : Wd) : Md S W W := ⟨Evl.Ex.refl _, fun _ _ _ h => h, fun _ _ _ h => h, fun _ _ => rfl, fun _ h => h, fun _ h => h⟩
theorem Md.trans {S : List Addr} {W W1 W2 : Wd} (a : Md S W W1) (b : Md S W1 W2) : Md S W W2 := ⟨a.b.trans b.b, fun x o h1 h2 => b.l x o (a.b x o h1) (a.l x o h1 h2), fun x o h1 h2 => b.o x o h1 (a.o x o h1 h2), fun x hx => by
  rw [b.m x (a.n x hx), a.m x hx], fun x hx => b.d x (a.d x hx), fun x hx => b.n x (a.n x hx)⟩
theorem Md.mono {S S' : List Addr} {W W' : Wd} (a : Md S W W') (h : ∀ x, x ∈ S → x ∈ S') : Md S' W W' := ⟨a.b, a.l, fun x o h1 h2 => a.o x o (fun z => h1 (h x z)) h2, a.m, a.d, a.n⟩
theorem Md.mut {S : List Addr} {W W' : Wd} (g : Md S W W') {a : Addr} {o : HO} (hS : a ∉ S) (h : W.H a = some o) (n : W.B a = none) (ho : ∀ xs, o ≠ .tup xs := by intro _ h; cases h) : W'.H a = some o ∧ W'.B a = none :=
  ⟨g.o a o hS h, by rw [g.m a ⟨o, h, ho⟩]; exact n⟩
abbrev Grow := Md []
theorem Md.h {W W' : Wd} (g : Md [] W W') : Ex W.H W'.H := fun a o e => g.o a o (by simp) e
theorem Grow.s {S : List Addr} {W W' : Wd} (g : Grow W W') : Md S W W' := g.mono fun _ h => by simp at h
theorem Grow.mk {W W' : Wd} (b : Ex W.B W'.B) (h : Ex W.H W'.H) (m : ∀ a, Nt W.H a → W'.B a = W.B a) : Grow W W' := ⟨b, fun a o _ h2 => h a o h2, fun a o _ h2 => h a o h2, m, fun a h2 z => (by
  cases q : W.H a with
  | none => exact h2 q
  | some o => rw [h a o q] at z; cases z), fun a ⟨o, e, ho⟩ => ⟨o, h a o e, ho⟩⟩
theorem Wd.free (W : Wd) {p : Addr} (h : W.H p = none) : W.B p = none := W.sub.free h
/-- a new thing that stays -/
def Wd.add (W : Wd) (p : Addr) (o : HO) : Wd := ⟨upd W.B p o, upd W.H p o, fun a u e => by
  by_cases q : a = p
  · subst q; rw [upd_same] at e; cases e; exact .inl upd_same
  · rw [upd_ne q] at e; rw [upd_ne q]; exact W.sub a u e⟩
theorem Wd.grow_add (W : Wd) {p : Addr} {o : HO} (h : W.H p = none) : Grow W (W.add p o) :=
  .mk (Evl.Ex.new (W.free h)) (Evl.Ex.new h) fun a ha => by
    have : a ≠ p := fun e => ha.ne (by rw [e]; exact h)
    show upd W.B p o a = W.B a
    rw [upd_ne this]
/-- a thing that may change, new or changed -/
def Wd.put (W : Wd) (p : Addr) (o : HO) (h : W.B p = none) : Wd := ⟨W.B, upd W.H p o, fun a u e => by
  have q : a ≠ p := fun q => by rw [q, h] at e; cases e
  rw [upd_ne q]; exact W.sub a u e⟩
theorem Wd.grow_put (W : Wd) {p : Addr} {o : HO} (h : W.H p = none) : Grow W (W.put p o (W.free h)) :=
  .mk (Evl.Ex.refl _) (Evl.Ex.new h) fun _ _ => rfl
theorem md_put {W : Wd} {p : Addr} {o : HO} (h : W.B p = none) (ho : ∀ xs, o ≠ .tup xs := by intro _ h; cases h) : Md [p] W (W.put p o h) := ⟨Evl.Ex.refl _, fun a u h1 h2 => by
    have : a ≠ p := fun e => by rw [e, h] at h1; cases h1
    show upd W.H p o a = some u
    rw [upd_ne this]; exact h2, fun a u h1 h2 => by
    have : a ≠ p := fun e => h1 (by rw [e]; simp)
    show upd W.H p o a = some u
    rw [upd_ne this]; exact h2, fun _ _ => rfl, fun a ha => by
    show upd W.H p o a ≠ none
    by_cases q : a = p
    · rw [q, upd_same]; exact fun z => by cases z
    · rw [upd_ne q]; exact ha, fun a ha => by
    show Nt (upd W.H p o) a
    by_cases q : a = p
    · rw [q]; exact ⟨o, upd_same, ho⟩
    · obtain ⟨u, e, hu⟩ := ha
      exact ⟨u, (upd_ne q).trans e, hu⟩⟩
/-- tuples never change: those at bs may be taken into what stays -/
def Wd.tup (W : Wd) (bs : List Addr) : Wd := ⟨fun b => match W.B b with
    | some o => some o
    | none => match W.H b with
      | some (.tup xs) => if b ∈ bs then some (.tup xs) else none
      | _ => none, W.H, fun b o e => by
  cases q : W.B b with
  | some u =>
    simp only [q] at e
    cases e
    exact W.sub b _ q
  | none =>
    simp only [q] at e
    cases q2 : W.H b with
    | none => simp only [q2] at e; cases e
    | some u =>
      cases u <;> simp only [q2] at e <;> try (cases e; done)
      split at e
      · cases e; exact .inl rfl
      · cases e⟩
theorem Wd.grow_tup (W : Wd) (bs : List Addr) : Grow W (W.tup bs) := .mk (fun b o e => by
    show (match W.B b with | some o => some o | none => _) = some o
    rw [e]) (fun _ _ h => h) fun b ⟨o, e, ho⟩ => by
  show (match W.B b with | some o => some o | none => _) = W.B b
  cases q : W.B b with
  | some u => rfl
  | none =>
    rw [e]
    cases o <;> first | rfl | exact absurd rfl (ho _)
theorem Wd.tup_at {W : Wd} {bs : List Addr} {b : Addr} {xs : List V} (h : W.H b = some (.tup xs)) (hb : b ∈ bs) : (W.tup bs).B b = some (.tup xs) := by
  show (match W.B b with | some o => some o | none => _) = _
  cases q : W.B b with
  | some u =>
    rcases W.sub b _ q with z | ⟨⟨k, rfl⟩, ob, z⟩
    · rw [h] at z; cases z; rfl
    · rw [h] at z; cases z
  | none =>
    simp only [h, if_pos hb]
/-- what an expression may do: S may change, I holds throughout -/
structure Ef where
  S : List Addr
  I : Wd → Prop
  dom : ∀ W a, I W → a ∈ S → Nt W.H a
  mv : ∀ W W', Ex W.B W'.B → (∀ a, a ∈ S → Nt W.H a → W'.H a = W.H a ∧ W'.B a = W.B a) → I W → I W'
theorem Ef.grow (ε : Ef) (W W' : Wd) (g : Grow W W') (h : ε.I W) : ε.I W' := ε.mv W W' g.b (fun a _ ha => by
  obtain ⟨o, q, _⟩ := id ha
  exact ⟨(g.h a o q).trans q.symm, g.m a ha⟩) h
theorem Ef.off {ε : Ef} {W : Wd} {D : Addr} (i : ε.I W) (h : W.H D = none) : D ∉ ε.S := fun z => (ε.dom W D i z).ne h
def pur : Ef := ⟨[], fun _ => True, fun _ _ _ h => by simp at h, fun _ _ _ _ _ => trivial⟩
structure Stp (ε : Ef) (W W' : Wd) : Prop where
  md : Md ε.S W W'
  i : ε.I W'
theorem Stp.rf {ε : Ef} {W W' : Wd} (a : Stp ε W W') : Stp ε W' W' := ⟨.refl _ _, a.i⟩
theorem Stp.start {ε : Ef} {W : Wd} (a : ε.I W) : Stp ε W W := ⟨.refl _ _, a⟩
theorem Stp.trans {ε : Ef} {W W1 W2 : Wd} (a : Stp ε W W1) (b : Stp ε W1 W2) : Stp ε W W2 := ⟨a.md.trans b.md, b.i⟩
theorem Stp.and {ε : Ef} {W W1 W2 : Wd} (a : Stp ε W W1) (b : Grow W1 W2) : Stp ε W W2 := ⟨a.md.trans (Grow.s b), ε.grow _ _ b a.i⟩
theorem Stp.pure {W W' : Wd} (a : Stp pur W W') : Grow W W' := a.md
theorem Stp.of {W W' : Wd} (a : Grow W W') : Stp pur W W' := ⟨a, trivial⟩

/-! ### data -/
class Py (α : Type) where
  rep : Fg → Hp → V → α → Prop
  mono : ∀ {K : Fg} {H H' : Hp} {v : V} {x : α}, Ext H H' → rep K H v x → rep K H' v x
abbrev rep {α : Type} [Py α] (K : Fg) (H : Hp) (v : V) (x : α) : Prop := Py.rep K H v x
theorem rex {α : Type} [Py α] {K : Fg} {H H' : Hp} {v : V} {x : α} (e : Ex H H') (h : rep K H v x) : rep K H' v x := Py.mono (exExt e) h
instance : Py Int := ⟨fun _ _ v i => v = .int i, fun _ h => h⟩
instance : Py Bool := ⟨fun _ _ v b => v = .bl b, fun _ h => h⟩
instance : Py Str := ⟨fun _ _ v s => v = .str s, fun _ h => h⟩
instance : Py Unit := ⟨fun _ _ v _ => v = .non, fun _ h => h⟩
/-- any value by itself -/
structure Raw where
  v : V
instance : Py Raw := ⟨fun _ _ v x => v = x.v, fun _ h => h⟩
abbrev Reps {α : Type} [Py α] (K : Fg) (H : Hp) (vs : List V) (xs : List α) : Prop := Paired (rep K H) vs xs
theorem Reps.mono {α : Type} [Py α] {K : Fg} {H H' : Hp} (e : Ext H H') : ∀ {vs : List V} {xs : List α}, Reps K H vs xs → Reps K H' vs xs
  | _, _, .nil => .nil
  | _, _, .cons a b => .cons (Py.mono e a) (Reps.mono e b)
theorem Reps.len {α : Type} [Py α] {K : Fg} {H : Hp} {vs : List V} {xs : List α} (h : Reps K H vs xs) : vs.length = xs.length := Paired.length h
theorem Reps.get {α : Type} [Py α] {K : Fg} {H : Hp} : ∀ {vs : List V} {xs : List α}, Reps K H vs xs → ∀ {i : Nat} {v : V}, vs[i]? = some v → ∃ x, xs[i]? = some x ∧ rep K H v x
  | _, _, .nil, i, v, e => by simp at e
  | _, _, .cons a b, 0, v, e => by simp at e; subst e; exact ⟨_, rfl, a⟩
  | _, _, .cons a b, i + 1, v, e => by
    obtain ⟨x, h1, h2⟩ := Reps.get b (i := i) (v := v) (by simpa using e)
    exact ⟨x, by simpa using h1, h2⟩
theorem Reps.get' {α : Type} [Py α] {K : Fg} {H : Hp} : ∀ {vs : List V} {xs : List α}, Reps K H vs xs → ∀ {i : Nat} {x : α}, xs[i]? = some x → ∃ v, vs[i]? = some v ∧ rep K H v x
  | _, _, .nil, i, v, e => by simp at e
  | _, _, .cons a b, 0, v, e => by simp at e; subst e; exact ⟨_, rfl, a⟩
  | _, _, .cons a b, i + 1, v, e => by
    obtain ⟨x, h1, h2⟩ := Reps.get' b (i := i) (x := v) (by simpa using e)
    exact ⟨x, by simpa using h1, h2⟩
theorem Reps.snoc {α : Type} [Py α] {K : Fg} {H : Hp} {vs : List V} {xs : List α} {v : V} {x : α} (h : Reps K H vs xs) (r : rep K H v x) : Reps K H (vs ++ [v]) (xs ++ [x]) := Paired.snoc h r
theorem Reps.app {α : Type} [Py α] {K : Fg} {H : Hp} : ∀ {vs ws : List V} {xs ys : List α}, Reps K H vs xs → Reps K H ws ys → Reps K H (vs ++ ws) (xs ++ ys)
  | _, _, _, _, .nil, h => h
  | _, _, _, _, .cons a b, h => .cons a (Reps.app b h)
theorem Reps.rev {α : Type} [Py α] {K : Fg} {H : Hp} : ∀ {vs : List V} {xs : List α}, Reps K H vs xs → Reps K H vs.reverse xs.reverse
  | _, _, .nil => .nil
  | _, _, .cons a b => by simp only [List.reverse_cons]; exact Reps.snoc (Reps.rev b) a
theorem Reps.take {α : Type} [Py α] {K : Fg} {H : Hp} : ∀ (n : Nat) {vs : List V} {xs : List α}, Reps K H vs xs → Reps K H (vs.take n) (xs.take n)
  | 0, _, _, _ => .nil
  | n + 1, _, _, .nil => .nil
  | n + 1, _, _, .cons a b => .cons a (Reps.take n b)
theorem Reps.drop {α : Type} [Py α] {K : Fg} {H : Hp} : ∀ (n : Nat) {vs : List V} {xs : List α}, Reps K H vs xs → Reps K H (vs.drop n) (xs.drop n)
  | 0, _, _, h => h
  | n + 1, _, _, .nil => .nil
  | n + 1, _, _, .cons a b => Reps.drop n b
theorem Reps.set {α : Type} [Py α] {K : Fg} {H : Hp} {v : V} {x : α} (r : rep K H v x) : ∀ {vs : List V} {xs : List α} (i : Nat), Reps K H vs xs → Reps K H (vs.set i v) (xs.set i x)
  | _, _, _, .nil => .nil
  | _, _, 0, .cons a b => .cons r b
  | _, _, i + 1, .cons a b => .cons a (Reps.set r i b)
theorem reps_int {K : Fg} {H : Hp} : ∀ {vs : List V} {ns : List Int}, Reps K H vs ns → vs = ns.map V.int
  | _, _, .nil => rfl
  | _, _, .cons a b => by rw [show _ = _ from a, reps_int b]; rfl
theorem int_reps {K : Fg} {H : Hp} : ∀ (ns : List Int), Reps K H (ns.map V.int) ns
  | [] => .nil
  | _ :: r => .cons rfl (int_reps r)
theorem reps_str {K : Fg} {H : Hp} : ∀ {vs : List V} {ns : List Str}, Reps K H vs ns → vs = ns.map V.str
  | _, _, .nil => rfl
  | _, _, .cons a b => by rw [show _ = _ from a, reps_str b]; rfl
theorem str_reps {K : Fg} {H : Hp} : ∀ (ns : List Str), Reps K H (ns.map V.str) ns
  | [] => .nil
  | _ :: r => .cons rfl (str_reps r)
theorem reps_bl {K : Fg} {H : Hp} : ∀ {vs : List V} {ns : List Bool}, Reps K H vs ns → vs = ns.map V.bl
  | _, _, .nil => rfl
  | _, _, .cons a b => by rw [show _ = _ from a, reps_bl b]; rfl
theorem bl_reps {K : Fg} {H : Hp} : ∀ (ns : List Bool), Reps K H (ns.map V.bl) ns
  | [] => .nil
  | _ :: r => .cons rfl (bl_reps r)
instance {α : Type} [Py α] : Py (List α) := ⟨fun K H v xs => ∃ a vs, v = .ref a ∧ H a = some (.lst vs) ∧ Reps K H vs xs,
  fun e ⟨a, vs, h1, h2, h3⟩ => ⟨a, vs, h1, e.el h2, Reps.mono e h3⟩⟩
instance {α : Type} [Py α] : Py (Tup α) := ⟨fun K H v xs => ∃ a vs, v = .ref a ∧ H a = some (.tup vs) ∧ Reps K H vs xs.items,
  fun e ⟨a, vs, h1, h2, h3⟩ => ⟨a, vs, h1, e.et h2, Reps.mono e h3⟩⟩
instance {α β : Type} [Py α] [Py β] : Py (α × β) := ⟨fun K H v p => ∃ a x y, v = .ref a ∧ H a = some (.tup [x, y]) ∧ rep K H x p.1 ∧ rep K H y p.2,
  fun e ⟨a, x, y, h1, h2, h3, h4⟩ => ⟨a, x, y, h1, e.et h2, Py.mono e h3, Py.mono e h4⟩⟩
instance {α β γ : Type} [Py α] [Py β] [Py γ] : Py (T3 α β γ) := ⟨fun K H v p => ∃ a x y z, v = .ref a ∧ H a = some (.tup [x, y, z]) ∧ rep K H x p.a ∧ rep K H y p.b ∧ rep K H z p.c,
  fun e ⟨a, x, y, z, h1, h2, h3, h4, h5⟩ => ⟨a, x, y, z, h1, e.et h2, Py.mono e h3, Py.mono e h4, Py.mono e h5⟩⟩
instance {α β γ δ : Type} [Py α] [Py β] [Py γ] [Py δ] : Py (T4 α β γ δ) := ⟨fun K H v p => ∃ a x y z w, v = .ref a ∧ H a = some (.tup [x, y, z, w]) ∧ rep K H x p.a ∧ rep K H y p.b ∧ rep K H z p.c ∧ rep K H w p.d,
  fun e ⟨a, x, y, z, w, h1, h2, h3, h4, h5, h6⟩ => ⟨a, x, y, z, w, h1, e.et h2, Py.mono e h3, Py.mono e h4, Py.mono e h5, Py.mono e h6⟩⟩
instance {α : Type} [Py α] : Py (Option α) := ⟨fun K H v o => match o with | none => v = .non | some x => rep K H v x,
  fun {_ _ _ _ o} e h => match o, h with | none, h => h | some _, h => Py.mono e h⟩
class PyKey (κ : Type) where
  key : κ → Key
  inj : ∀ {a b : κ}, key a = key b → a = b
instance : PyKey Int := ⟨.inl, fun h => Sum.inl.inj h⟩
instance : PyKey Str := ⟨.inr, fun h => Sum.inr.inj h⟩
structure Dict (κ α : Type) where
  kv : List (κ × α)
abbrev KReps {κ α : Type} [PyKey κ] [Py α] (K : Fg) (H : Hp) (ks : List (Key × V)) (xs : List (κ × α)) : Prop := Paired (fun p q => p.1 = PyKey.key q.1 ∧ rep K H p.2 q.2) ks xs
theorem KReps.mono {κ α : Type} [PyKey κ] [Py α] {K : Fg} {H H' : Hp} (e : Ext H H') : ∀ {vs : List (Key × V)} {xs : List (κ × α)}, KReps K H vs xs → KReps K H' vs xs
  | _, _, .nil => .nil
  | _, _, .cons a b => .cons ⟨a.1, Py.mono e a.2⟩ (KReps.mono e b)
theorem KReps.len {κ α : Type} [PyKey κ] [Py α] {K : Fg} {H : Hp} {vs : List (Key × V)} {xs : List (κ × α)} (h : KReps K H vs xs) : vs.length = xs.length := Paired.length h
theorem KReps.get {κ α : Type} [PyKey κ] [Py α] {K : Fg} {H : Hp} : ∀ {vs : List (Key × V)} {xs : List (κ × α)}, KReps K H vs xs → ∀ {i : Nat} {k : Key} {v : V}, vs[i]? = some (k, v) → ∃ q, xs[i]? = some q ∧ k = PyKey.key q.1 ∧ rep K H v q.2
  | _, _, .nil, i, k, v, e => by simp at e
  | _, _, .cons a b, 0, k, v, e => by simp at e; subst e; exact ⟨_, rfl, a⟩
  | _, _, .cons a b, i + 1, k, v, e => by
    obtain ⟨x, h1, h2⟩ := KReps.get b (i := i) (k := k) (v := v) (by simpa using e)
    exact ⟨x, by simpa using h1, h2⟩
instance {κ α : Type} [PyKey κ] [Py α] : Py (Dict κ α) := ⟨fun K H v d => ∃ a ks, v = .ref a ∧ Rd H a (.dK ks) ∧ KReps K H ks d.kv,
  fun e ⟨a, vs, h1, h2, h3⟩ => ⟨a, vs, h1, e.rd h2, KReps.mono e h3⟩⟩
theorem key_rep {κ : Type} [PyKey κ] [Py κ] (K : Fg) (H : Hp) (h : ∀ k : κ, rep K H (kV (PyKey.key k)) k) (k : κ) : rep K H (kV (PyKey.key k)) k := h k
class PyKV (κ : Type) extends PyKey κ, Py κ where
  krep : ∀ (K : Fg) (H : Hp) (k : κ), Py.rep K H (kV (key k)) k
  keyv : ∀ {K : Fg} {H : Hp} {v : V} {k : κ}, Py.rep K H v k → v = kV (key k)
instance : PyKV Int := { krep := fun _ _ _ => rfl, keyv := fun h => h }
instance : PyKV Str := { krep := fun _ _ _ => rfl, keyv := fun h => h }
/-! ### data that == tells apart -/
class PyD (α : Type) [DecidableEq α] [Datum α] [Py α] : Prop where
  dp : ∀ {K : Fg} {H : Hp} {v : V} {x : α}, rep K H v x → Dp K H v (Datum.toD x)
theorem reps_dp {α : Type} [DecidableEq α] [Datum α] [Py α] [PyD α] {K : Fg} {H : Hp} : ∀ {vs : List V} {xs : List α}, Reps K H vs xs → DpAll K H vs (xs.map Datum.toD)
  | _, _, .nil => .nil
  | _, _, .cons a b => .cons (PyD.dp a) (reps_dp b)
instance : PyD Int := ⟨fun {K H v x} h => by rw [show v = _ from h]; exact .int x⟩
instance : PyD Bool := ⟨fun {K H v x} h => by rw [show v = _ from h]; exact .bl x⟩
instance : PyD Str := ⟨fun {K H v x} h => by rw [show v = _ from h]; exact .str x⟩
instance : PyD Unit := ⟨fun {K H v x} h => by rw [show v = _ from h]; exact .non⟩
section
variable {α β γ δ : Type} [DecidableEq α] [Datum α] [Py α] [PyD α] [DecidableEq β] [Datum β] [Py β] [PyD β] [DecidableEq γ] [Datum γ] [Py γ] [PyD γ] [DecidableEq δ] [Datum δ] [Py δ] [PyD δ]
instance : PyD (List α) := ⟨fun ⟨a, vs, e, h, r⟩ => by rw [e]; exact .lst (SqL.of h) (reps_dp r)⟩
instance : PyD (Tup α) := ⟨fun ⟨a, vs, e, h, r⟩ => by rw [e]; exact .tup (SqT.of h) (reps_dp r)⟩
instance : PyD (α × β) := ⟨fun ⟨a, x, y, e, h, r1, r2⟩ => by rw [e]; exact .tup (SqT.of h) (.cons (PyD.dp r1) (.cons (PyD.dp r2) .nil))⟩
instance : PyD (T3 α β γ) := ⟨fun ⟨a, x, y, z, e, h, r1, r2, r3⟩ => by rw [e]; exact .tup (SqT.of h) (.cons (PyD.dp r1) (.cons (PyD.dp r2) (.cons (PyD.dp r3) .nil)))⟩
instance : PyD (T4 α β γ δ) := ⟨fun ⟨a, x, y, z, w, e, h, r1, r2, r3, r4⟩ => by rw [e]; exact .tup (SqT.of h) (.cons (PyD.dp r1) (.cons (PyD.dp r2) (.cons (PyD.dp r3) (.cons (PyD.dp r4) .nil))))⟩
end
theorem holds_of {X : Cx} {pins : List (Addr × Obj)} {σ : SS} {H : Hp} {s : Shared} {α : Type} [DecidableEq α] [Datum α] {v : V} {u : Value} {x : α} (I : Inv X pins σ H s) (h : Dp X.K H v (Datum.toD x)) (r : RelV v u) : PySem.W.Holds s.heap u x := Dp.reads I _ v u h r
/-- == of two such of one type -/
def rEqT (K : Fg) (neg : Bool) : R2 := fun x y H Q => ∃ (α : Type) (_ : DecidableEq α) (_ : Datum α) (a b : α), Dp K H x (Datum.toD a) ∧ Dp K H y (Datum.toD b) ∧ Datum.depth α ≤ 60 ∧ Q (.bl (if neg then !decide (a = b) else decide (a = b))) H
def rLtT (K : Fg) : R2 := fun x y H Q => ∃ (α : Type) (_ : DecidableEq α) (_ : DatumOrd α) (a b : α), Dp K H x (Datum.toD a) ∧ Dp K H y (Datum.toD b) ∧ Datum.depth α ≤ 60 ∧ Q (.bl (DatumOrd.lt a b)) H
def rInTL (K : Fg) (neg : Bool) : R2 := fun x y H Q => ∃ (α : Type) (_ : DecidableEq α) (_ : Datum α) (a : α) (b : List α), Dp K H x (Datum.toD a) ∧ Dp K H y (Datum.toD b) ∧ Datum.depth α ≤ 60 ∧ Q (.bl (if neg then !decide (a ∈ b) else decide (a ∈ b))) H
def rInTT (K : Fg) (neg : Bool) : R2 := fun x y H Q => ∃ (α : Type) (_ : DecidableEq α) (_ : Datum α) (a : α) (b : Tup α), Dp K H x (Datum.toD a) ∧ Dp K H y (Datum.toD b) ∧ Datum.depth α ≤ 60 ∧ Q (.bl (if neg then !decide (a ∈ b.items) else decide (a ∈ b.items))) H
section
variable {X : Cx}
theorem op_eqT (hu : X.A.units + 64 < cLine) : OpR X (compareOp .Eq) (rEqT X.K false) := by
  intro pins s σ H x y v u Q I rx ry h
  obtain ⟨α, _, _, a, b, ha, hb, hd, q⟩ := h
  exact PySem.W.eq_datum (holds_of I ha rx) (holds_of I hb ry) (by omega) ⟨.bl _, H, I, rfl, q⟩
theorem op_neT (hu : X.A.units + 64 < cLine) : OpR X (compareOp .NotEq) (rEqT X.K true) := by
  intro pins s σ H x y v u Q I rx ry h
  obtain ⟨α, _, _, a, b, ha, hb, hd, q⟩ := h
  refine PySem.W.ne_datum (holds_of I ha rx) (holds_of I hb ry) (by omega) ⟨.bl _, H, I, ?_, q⟩
  show Value.bool _ = Value.bool _
  simp
theorem op_ltTT (hu : X.A.units + 64 < cLine) : OpR X (compareOp .Lt) (rLtT X.K) := by
  intro pins s σ H x y v u Q I rx ry h
  obtain ⟨α, _, _, a, b, ha, hb, hd, q⟩ := h
  exact PySem.W.lt_datum (holds_of I ha rx) (holds_of I hb ry) (by omega) ⟨.bl _, H, I, rfl, q⟩
theorem op_inTL (hu : X.A.units + 64 < cLine) : OpR X (compareOp .In) (rInTL X.K false) := by
  intro pins s σ H x y v u Q I rx ry h
  obtain ⟨α, _, _, a, b, ha, hb, hd, q⟩ := h
  obtain ⟨l, vs, rfl, hl, H2⟩ := PySem.W.list_of_holds (holds_of I hb ry)
  exact PySem.W.in_list_datum hl H2 (holds_of I ha rx) (by omega) ⟨.bl _, H, I, rfl, q⟩
theorem op_notInTL (hu : X.A.units + 64 < cLine) : OpR X (compareOp .NotIn) (rInTL X.K true) := by
  intro pins s σ H x y v u Q I rx ry h
  obtain ⟨α, _, _, a, b, ha, hb, hd, q⟩ := h
  obtain ⟨l, vs, rfl, hl, H2⟩ := PySem.W.list_of_holds (holds_of I hb ry)
  refine PySem.W.notIn_list_datum hl H2 (holds_of I ha rx) (by omega) ⟨.bl _, H, I, ?_, q⟩
  show Value.bool _ = Value.bool _
  simp
theorem op_inTT (hu : X.A.units + 64 < cLine) : OpR X (compareOp .In) (rInTT X.K false) := by
  intro pins s σ H x y v u Q I rx ry h
  obtain ⟨α, _, _, a, b, ha, hb, hd, q⟩ := h
  obtain ⟨l, vs, rfl, hl, H2⟩ := PySem.W.tup_of_holds (holds_of I hb ry)
  exact PySem.W.in_tuple_datum hl H2 (holds_of I ha rx) (by omega) ⟨.bl _, H, I, rfl, q⟩
theorem op_notInTT (hu : X.A.units + 64 < cLine) : OpR X (compareOp .NotIn) (rInTT X.K true) := by
  intro pins s σ H x y v u Q I rx ry h
  obtain ⟨α, _, _, a, b, ha, hb, hd, q⟩ := h
  obtain ⟨l, vs, rfl, hl, H2⟩ := PySem.W.tup_of_holds (holds_of I hb ry)
  refine PySem.W.notIn_tuple_datum hl H2 (holds_of I ha rx) (by omega) ⟨.bl _, H, I, ?_, q⟩
  show Value.bool _ = Value.bool _
  simp
end
end B
/-! B: what a reading evaluates to in a world -/
namespace B
open PySem L2
open Evl (Ex)
open PySem.W (Tup T3 T4 Datum DatumOrd)

/-- later: what stays is as it was, and no more of it is locked -/
structure On (W W' : Wd) : Prop where
  b : Ex W.B W'.B
  l : ∀ a o, W.B a = some o → W.H a = some o → W'.H a = some o
theorem On.refl (W : Wd) : On W W := ⟨Evl.Ex.refl _, fun _ _ _ h => h⟩
theorem On.trans {W W1 W2 : Wd} (x : On W W1) (y : On W1 W2) : On W W2 := ⟨x.b.trans y.b, fun a o h1 h2 => y.l a o (x.b a o h1) (x.l a o h1 h2)⟩
theorem Md.on {S : List Addr} {W W' : Wd} (g : Md S W W') : On W W' := ⟨g.b, g.l⟩
theorem Stp.on {ε : Ef} {W W' : Wd} (g : Stp ε W W') : On W W' := g.md.on

section
variable {α β γ : Type} [Py α] [Py β] [Py γ] {K : Fg} {σ : SS} {W W' : Wd} {v : V} {x : α} {ε : Ef} {S : List Addr}
theorem rep_g (g : Md S W W') (h : rep K W.B v x) : rep K W'.B v x := rex g.b h
theorem rep_s (g : Stp ε W W') (h : rep K W.B v x) : rep K W'.B v x := rex g.md.b h
theorem rep_on (g : On W W') (h : rep K W.B v x) : rep K W'.B v x := rex g.b h
theorem rep_h (h : rep K W.B v x) : rep K W.H v x := Py.mono W.sub h
end
/-- an unlocked dict that stays -/
def DictAt {κ α : Type} [PyKey κ] [Py α] (K : Fg) (W : Wd) (v : V) (d : Dict κ α) : Prop :=
  ∃ a ks, v = .ref a ∧ W.B a = some (.dK ks) ∧ W.H a = some (.dK ks) ∧ KReps K W.B ks d.kv
section
variable {κ α : Type} [PyKey κ] [Py α] {K : Fg} {W W' : Wd} {v : V} {d : Dict κ α} {ε : Ef} {S : List Addr}
theorem DictAt.rep (h : DictAt K W v d) : rep K W.B v d := by
  obtain ⟨a, ks, h1, h2, h3, h4⟩ := h
  exact ⟨a, ks, h1, .inl h2, h4⟩
theorem DictAt.on (g : On W W') (h : DictAt K W v d) : DictAt K W' v d := by
  obtain ⟨a, ks, h1, h2, h3, h4⟩ := h
  exact ⟨a, ks, h1, g.b _ _ h2, g.l _ _ h2 h3, KReps.mono (exExt g.b) h4⟩
theorem DictAt.g (g : Md S W W') (h : DictAt K W v d) : DictAt K W' v d := h.on g.on
theorem DictAt.s (g : Stp ε W W') (h : DictAt K W v d) : DictAt K W' v d := h.on g.on
end

theorem nodup_le {α : Type} [DecidableEq α] : ∀ {l m : List α}, l.Nodup → (∀ x ∈ l, x ∈ m) → l.length ≤ m.length
  | [], _, _, _ => Nat.zero_le _
  | x :: l, m, n, h => by
    rw [List.nodup_cons] at n
    have hx := h x List.mem_cons_self
    have := nodup_le (m := m.erase x) n.2 fun y hy => (List.mem_erase_of_ne (fun (e : y = x) => n.1 (e ▸ hy))).mpr (h y (List.mem_cons_of_mem _ hy))
    rw [List.length_erase_of_mem hx] at this
    have : 0 < m.length := List.length_pos_of_mem hx
    rw [List.length_cons]
    omega
/-! tables -/
section
variable {κ α : Type} [DecidableEq κ]
def klook (kv : List (κ × α)) (k : κ) : Option α := (kv.find? fun q => decide (q.1 = k)).map (·.2)
def kput (kv : List (κ × α)) (k : κ) (v : α) : List (κ × α) := if (kv.any fun q => decide (q.1 = k)) = true then kv.map (fun q => if q.1 = k then (q.1, v) else q) else kv ++ [(k, v)]
def kdrop (kv : List (κ × α)) (k : κ) : List (κ × α) := kv.filter fun q => decide (q.1 ≠ k)
theorem klook_nil {k : κ} : klook ([] : List (κ × α)) k = none := rfl
theorem klook_cons {q : κ × α} {kv : List (κ × α)} {k : κ} : klook (q :: kv) k = if q.1 = k then some q.2 else klook kv k := by
  unfold klook
  rw [List.find?_cons]
  by_cases h : q.1 = k
  · simp [h]
  · simp [h]
theorem klook_none {k : κ} : ∀ {kv : List (κ × α)}, klook kv k = none ↔ k ∉ kv.map (·.1)
  | [] => by simp [klook_nil]
  | q :: kv => by
    rw [klook_cons]
    by_cases h : q.1 = k
    · simp [h]
    · rw [if_neg h, klook_none, List.map_cons, List.mem_cons, not_or]
      exact ⟨fun z => ⟨fun e => h e.symm, z⟩, fun z => z.2⟩
theorem klook_mem {k : κ} {v : α} : ∀ {kv : List (κ × α)}, klook kv k = some v → (k, v) ∈ kv
  | [], h => by simp [klook_nil] at h
  | q :: kv, h => by
    rw [klook_cons] at h
    by_cases e : q.1 = k
    · rw [if_pos e] at h
      have : q = (k, v) := Prod.ext e (Option.some.inj h)
      rw [this]; exact List.mem_cons_self
    · rw [if_neg e] at h; exact List.mem_cons_of_mem _ (klook_mem h)
theorem klook_of_mem {k : κ} {v : α} : ∀ {kv : List (κ × α)}, (kv.map (·.1)).Nodup → (k, v) ∈ kv → klook kv k = some v
  | [], _, h => by simp at h
  | q :: kv, n, h => by
    rw [List.map_cons, List.nodup_cons] at n
    rw [klook_cons]
    rcases List.mem_cons.mp h with e | h
    · rw [← e]; simp
    · have : q.1 ≠ k := fun z => n.1 (List.mem_map.mpr ⟨(k, v), h, z.symm⟩)
      rw [if_neg this]; exact klook_of_mem n.2 h
theorem kput_mem {kv : List (κ × α)} {k : κ} {v : α} {q : κ × α} (h : q ∈ kput kv k v) : q ∈ kv ∨ q = (k, v) := by
  unfold kput at h
  split at h
  · obtain ⟨q', h1, h2⟩ := List.mem_map.mp h
    by_cases e : q'.1 = k
    · rw [if_pos e] at h2; exact .inr (by rw [← h2, e])
    · rw [if_neg e] at h2; exact .inl (h2 ▸ h1)
  · rcases List.mem_append.mp h with h | h
    · exact .inl h
    · exact .inr (by simpa using h)
theorem kput_keys_nodup {kv : List (κ × α)} {k : κ} {v : α} (n : (kv.map (·.1)).Nodup) : ((kput kv k v).map (·.1)).Nodup := by
  unfold kput
  split
  · have : (kv.map (fun q => if q.1 = k then (q.1, v) else q)).map (·.1) = kv.map (·.1) := by
      rw [List.map_map]
      refine List.map_congr_left fun q _ => ?_
      show (if q.1 = k then (q.1, v) else q).1 = q.1
      split <;> rfl
    rw [this]; exact n
  · rename_i h
    rw [List.map_append, List.map_cons, List.map_nil, List.nodup_append]
    refine ⟨n, by simp, fun a ha b hb => ?_⟩
    have e : b = k := by simpa using hb
    subst e
    intro z
    subst z
    obtain ⟨q, h1, h2⟩ := List.mem_map.mp ha
    exact h (List.any_eq_true.mpr ⟨q, h1, by simp [h2]⟩)
theorem kput_len (kv : List (κ × α)) (k : κ) (v : α) : (kput kv k v).length ≤ kv.length + 1 := by
  unfold kput
  split <;> simp
theorem klook_put (kv : List (κ × α)) (k j : κ) (v : α) : klook (kput kv k v) j = if j = k then some v else klook kv j := by
  unfold kput
  by_cases h : (kv.any fun q => decide (q.1 = k)) = true
  · rw [if_pos h]
    have main : ∀ kv : List (κ × α), klook (kv.map (fun q => if q.1 = k then (q.1, v) else q)) j = if j = k then (if k ∈ kv.map (·.1) then some v else none) else klook kv j := by
      intro kv
      induction kv with
      | nil => simp [klook_nil]
      | cons q kv ih =>
        rw [List.map_cons, klook_cons, ih, klook_cons, List.map_cons]
        by_cases e : q.1 = k
        · rw [if_pos e]
          by_cases e2 : j = k
          · subst e2; simp [e]
          · have : ¬ q.1 = j := fun z => e2 (z.symm.trans e)
            simp [e2, this]
        · rw [if_neg e]
          by_cases e2 : j = k
          · subst e2
            have : ¬ j = q.1 := fun z => e z.symm
            rw [if_neg e, if_pos rfl, if_pos rfl]
            by_cases hm : j ∈ kv.map (·.1)
            · rw [if_pos hm, if_pos (List.mem_cons_of_mem _ hm)]
            · rw [if_neg hm, if_neg (fun z => (List.mem_cons.mp z).elim this hm)]
          · simp [e2]
    rw [main]
    obtain ⟨q, h1, h2⟩ := List.any_eq_true.mp h
    have : k ∈ kv.map (·.1) := List.mem_map.mpr ⟨q, h1, of_decide_eq_true h2⟩
    rw [if_pos this]
  · rw [if_neg h]
    have hk : k ∉ kv.map (·.1) := fun z => by
      obtain ⟨q, h1, h2⟩ := List.mem_map.mp z
      exact h (List.any_eq_true.mpr ⟨q, h1, by simp [h2]⟩)
    clear h
    induction kv with
    | nil =>
      rw [List.nil_append, klook_cons, klook_nil]
      by_cases e : j = k
      · simp [e]
      · have : ¬ k = j := fun z => e z.symm
        simp [e, this]
    | cons q kv ih =>
      rw [List.map_cons, List.mem_cons, not_or] at hk
      rw [List.cons_append, klook_cons, ih hk.2, klook_cons]
      by_cases e : q.1 = j
      · have : ¬ j = k := fun z => hk.1 (z.symm.trans e.symm)
        simp [e, this]
      · simp [e]
end
section
variable {κ α : Type} [DecidableEq κ] [PyKey κ] [Py α] {K : Fg} {H : Hp} {ks : List (Key × V)} {kv : List (κ × α)}
theorem key_eq {a b : κ} : (PyKey.key a : Key) = PyKey.key b ↔ a = b := ⟨fun h => PyKey.inj h, fun h => by rw [h]⟩
theorem KReps.any (r : KReps K H ks kv) (k : κ) : (ks.any fun q => decide (q.1 = PyKey.key k)) = kv.any fun q => decide (q.1 = k) := by
  induction r with
  | nil => rfl
  | cons a b ih =>
    rw [List.any_cons, List.any_cons, ih, a.1]
    congr 1
    exact decide_eq_decide.mpr key_eq
theorem KReps.put {v : V} {x : α} (r : KReps K H ks kv) (k : κ) (rv : rep K H v x) : KReps K H (putK ks (PyKey.key k) v) (kput kv k x) := by
  unfold putK kput
  rw [r.any k]
  split
  · rename_i hx
    clear hx
    induction r with
    | nil => exact .nil
    | @cons a b l1 l2 h t ih =>
      rw [List.map_cons, List.map_cons]
      refine .cons ?_ ih
      by_cases e : b.1 = k
      · have : a.1 = PyKey.key k := by rw [h.1, e]
        rw [if_pos e, if_pos this]
        exact ⟨h.1, rv⟩
      · have : ¬ a.1 = PyKey.key k := fun z => e (PyKey.inj (h.1.symm.trans z))
        rw [if_neg e, if_neg this]
        exact h
  · exact Paired.snoc r ⟨rfl, rv⟩
theorem KReps.none (r : KReps K H ks kv) {k : κ} (h : klook kv k = none) : valV ks (PyKey.key k) = none := by
  induction r with
  | nil => rfl
  | @cons a b l1 l2 hh t ih =>
    rw [klook_cons] at h
    by_cases e : b.1 = k
    · rw [if_pos e] at h; cases h
    · rw [if_neg e] at h
      rw [valV_neg (fun z => e (PyKey.inj (hh.1.symm.trans z)))]
      exact ih h
theorem KReps.some (r : KReps K H ks kv) {k : κ} {x : α} (h : klook kv k = some x) : ∃ v, valV ks (PyKey.key k) = some v ∧ rep K H v x := by
  induction r with
  | nil => simp [klook_nil] at h
  | @cons a b l1 l2 hh t ih =>
    rw [klook_cons] at h
    by_cases e : b.1 = k
    · rw [if_pos e] at h
      cases h
      exact ⟨a.2, valV_pos (by rw [hh.1, e]), hh.2⟩
    · rw [if_neg e] at h
      obtain ⟨v, h1, h2⟩ := ih h
      exact ⟨v, by rw [valV_neg (fun z => e (PyKey.inj (hh.1.symm.trans z)))]; exact h1, h2⟩
theorem KReps.drop (r : KReps K H ks kv) (k : κ) : KReps K H (dropK ks (PyKey.key k)) (kdrop kv k) := by
  unfold dropK kdrop
  induction r with
  | nil => exact .nil
  | @cons a b l1 l2 hh t ih =>
    rw [List.filter_cons, List.filter_cons]
    by_cases e : b.1 = k
    · have : a.1 = PyKey.key k := by rw [hh.1, e]
      simp only [e, this, ne_eq, not_true_eq_false, decide_false, Bool.false_eq_true, if_false]
      exact ih
    · have : ¬ a.1 = PyKey.key k := fun z => e (PyKey.inj (hh.1.symm.trans z))
      simp only [e, this, ne_eq, not_false_eq_true, decide_true, if_true]
      exact .cons hh ih
end
/-- what stands at p shall stay -/
def Wd.fix (W : Wd) (p : Addr) (o : HO) (h : W.H p = some o) : Wd := ⟨upd W.B p o, W.H, fun a u e => by
  by_cases q : a = p
  · subst q; rw [upd_same] at e; cases e; exact .inl h
  · rw [upd_ne q] at e; exact W.sub a u e⟩
theorem md_fix {S : List Addr} {W W' : Wd} (g : Md S W W') {p : Addr} {o : HO} (h : W'.H p = some o) (n : W'.B p = none) (f : W.H p = none) : Md S W (W'.fix p o h) := by
  refine ⟨fun a u e => ?_, fun a u e1 e2 => g.l a u e1 e2, g.o, fun a ha => ?_, g.d, g.n⟩
  · have q : a ≠ p := fun z => by rw [z] at e; rw [W.free f] at e; cases e
    show upd W'.B p o a = some u
    rw [upd_ne q]; exact g.b a u e
  · have q : a ≠ p := fun z => ha.ne (by rw [z]; exact f)
    show upd W'.B p o a = W.B a
    rw [upd_ne q]; exact g.m a ha
theorem ex_fix {W : Wd} {p : Addr} {o : HO} (h : W.H p = some o) (n : W.B p = none) : Ex W.B (W.fix p o h).B := fun a u e => by
  have q : a ≠ p := fun z => by rw [z, n] at e; cases e
  show upd W.B p o a = some u
  rw [upd_ne q]; exact e
theorem md_mut {S : List Addr} {W W' : Wd} (g : Md S W W') {p : Addr} {o : HO} (n : W'.B p = none) (f : W.H p = none) : Md S W (W'.put p o n) := by
  refine ⟨g.b, fun a u e1 e2 => ?_, fun a u e1 e2 => ?_, g.m, fun a ha => ?_, fun a ha => ?_⟩
  · have q : a ≠ p := fun z => by rw [z, f] at e2; cases e2
    show upd W'.H p o a = some u
    rw [upd_ne q]; exact g.l a u e1 e2
  · have q : a ≠ p := fun z => by rw [z, f] at e2; cases e2
    show upd W'.H p o a = some u
    rw [upd_ne q]; exact g.o a u e1 e2
  · show upd W'.H p o a ≠ none
    by_cases q : a = p
    · rw [q, upd_same]; exact fun z => by cases z
    · rw [upd_ne q]; exact g.d a ha
  · have q : a ≠ p := fun z => ha.ne (by rw [z]; exact f)
    obtain ⟨u, e, hu⟩ := g.n a ha
    exact ⟨u, (upd_ne q).trans e, hu⟩
/-- what I tells stays where only p, which is none of S, changes -/
theorem i_put {ε : Ef} {W : Wd} {p : Addr} {o : HO} (hS : p ∉ ε.S) (i : ε.I W) (n : W.B p = none) : ε.I (W.put p o n) :=
  ε.mv W _ (Evl.Ex.refl _) (fun a h1 _ => ⟨upd_ne fun e => hS (e ▸ h1), rfl⟩) i
theorem i_fix {ε : Ef} {W : Wd} {p : Addr} {o : HO} (hS : p ∉ ε.S) (i : ε.I W) (h : W.H p = some o) (n : W.B p = none) : ε.I (W.fix p o h) :=
  ε.mv W _ (ex_fix h n) (fun a h1 _ => ⟨rfl, upd_ne fun e => hS (e ▸ h1)⟩) i


/-! ### expressions -/
/-- a value of which P is known -/
def EvP (ε : Ef) (te : TE) (σ : SS) (W : Wd) (P : V → Wd → Prop) : Prop := ∀ W1, Stp ε W W1 → ∀ Q : VK, (∀ v W2, Stp ε W1 W2 → P v W2 → Q v W2.H) → te σ W1.H Q
def EvR {α : Type} [Py α] (ε : Ef) (K : Fg) (te : TE) (σ : SS) (W : Wd) (x : α) : Prop :=
  ∀ W1, Stp ε W W1 → ∀ Q : VK, (∀ v W2, Stp ε W1 W2 → rep K W2.B v x → Q v W2.H) → te σ W1.H Q
/-- a dict that is not locked -/
def EvD {κ α : Type} [PyKey κ] [Py α] (ε : Ef) (K : Fg) (te : TE) (σ : SS) (W : Wd) (d : Dict κ α) : Prop :=
  ∀ W1, Stp ε W W1 → ∀ Q : VK, (∀ v W2, Stp ε W1 W2 → DictAt K W2 v d → Q v W2.H) → te σ W1.H Q
def EvT (ε : Ef) (tt : TT) (σ : SS) (W : Wd) (b : Bool) : Prop :=
  ∀ W1, Stp ε W W1 → ∀ Q : Bool → Hp → Prop, (∀ W2, Stp ε W1 W2 → Q b W2.H) → tt σ W1.H Q
def EvAs {α : Type} [Py α] (ε : Ef) (K : Fg) (ta : TA) (σ : SS) (W : Wd) (xs : List α) : Prop :=
  ∀ W1, Stp ε W W1 → ∀ Q : List V → Hp → Prop, (∀ vs W2, Stp ε W1 W2 → Reps K W2.B vs xs → Q vs W2.H) → ta σ W1.H Q
def EvO (ε : Ef) (to : TO) (σ : SS) (W : Wd) (o : Option Int) : Prop := ∀ W1, Stp ε W W1 → ∀ Q : Option Int → Hp → Prop, (∀ W2, Stp ε W1 W2 → Q o W2.H) → to σ W1.H Q
/-- an operation on values, at any later world -/
def RO {α β γ : Type} [Py α] [Py β] [Py γ] (K : Fg) (r : R2) (x : α) (y : β) (z : γ) : Prop :=
  ∀ v u W1, rep K W1.B v x → rep K W1.B u y → ∀ Q : VK, (∀ w W2, Grow W1 W2 → rep K W2.B w z → Q w W2.H) → r v u W1.H Q
def RU {α β : Type} [Py α] [Py β] (K : Fg) (r : V → Hp → VK → Prop) (x : α) (y : β) : Prop :=
  ∀ v W1, rep K W1.B v x → ∀ Q : VK, (∀ w W2, Grow W1 W2 → rep K W2.B w y → Q w W2.H) → r v W1.H Q
def RC1 {α β : Type} [Py α] [Py β] (K : Fg) (r : List V → Hp → VK → Prop) (x : α) (y : β) : Prop :=
  ∀ v W1, rep K W1.B v x → ∀ Q : VK, (∀ w W2, Grow W1 W2 → rep K W2.B w y → Q w W2.H) → r [v] W1.H Q
def RC2 {α β γ : Type} [Py α] [Py β] [Py γ] (K : Fg) (r : List V → Hp → VK → Prop) (x : α) (y : β) (z : γ) : Prop :=
  ∀ v u W1, rep K W1.B v x → rep K W1.B u y → ∀ Q : VK, (∀ w W2, Grow W1 W2 → rep K W2.B w z → Q w W2.H) → r [v, u] W1.H Q
section
variable {α β γ : Type} [Py α] [Py β] [Py γ] {K : Fg} {σ : SS} {W W' : Wd} {v : V} {x : α} {y : β} {z : γ} {ta tb te : TE} {r : R2} {t u : TT} {ε : Ef}
theorem EvR.p (h : EvR ε K te σ W x) : EvP ε te σ W (fun v W => rep K W.B v x) := h
theorem EvP.toR (h : EvP ε te σ W (fun v W => rep K W.B v x)) : EvR ε K te σ W x := h
theorem EvR.s (g : Stp ε W W') (h : EvR ε K te σ W x) : EvR ε K te σ W' x := fun W1 g1 => h W1 (g.trans g1)
theorem EvT.s {b : Bool} (g : Stp ε W W') (h : EvT ε t σ W b) : EvT ε t σ W' b := fun W1 g1 => h W1 (g.trans g1)
theorem EvR.is {x' : α} (h : EvR ε K te σ W x) (e : x = x') : EvR ε K te σ W x' := e ▸ h
theorem EvT.is {b b' : Bool} (h : EvT ε t σ W b) (e : b = b') : EvT ε t σ W b' := e ▸ h
theorem EvD.rep {κ : Type} [PyKey κ] {d : Dict κ α} (h : EvD ε K te σ W d) : EvR ε K te σ W d := fun W1 g1 Q k => h W1 g1 Q fun v W2 g2 r => k v W2 g2 r.rep
/-- what leaves the heap as it is, whatever the effect around -/
theorem ev_pure (h : ∀ W1, On W W1 → EvR pur K te σ W1 x) : EvR ε K te σ W x := fun W1 g1 Q k => h W1 g1.on W1 (.start trivial) Q fun v W2 g2 r => k v W2 (g1.rf.and g2.pure) r
theorem ev_pureD {κ : Type} [PyKey κ] {d : Dict κ α} (h : ∀ W1, On W W1 → EvD pur K te σ W1 d) : EvD ε K te σ W d := fun W1 g1 Q k => h W1 g1.on W1 (.start trivial) Q fun v W2 g2 r => k v W2 (g1.rf.and g2.pure) r
theorem et_pure {b : Bool} (h : ∀ W1, On W W1 → EvT pur t σ W1 b) : EvT ε t σ W b := fun W1 g1 Q k => h W1 g1.on W1 (.start trivial) Q fun W2 g2 => k W2 (g1.rf.and g2.pure)
theorem ev_var {i : Nat} (h : σ[i]? = some (some v)) (r : rep K W.B v x) : EvR ε K (tVar i) σ W x := fun W1 g1 Q k => ⟨v, h, k v W1 g1.rf (rep_s g1 r)⟩
theorem ev_dvar {κ : Type} [PyKey κ] {d : Dict κ α} {i : Nat} (h : σ[i]? = some (some v)) (r : DictAt K W v d) : EvD ε K (tVar i) σ W d := fun W1 g1 Q k => ⟨v, h, k v W1 g1.rf (r.s g1)⟩
theorem ev_int {n : Int} : EvR ε K (tC (.int n)) σ W n := fun W1 g1 Q k => k _ W1 g1.rf rfl
theorem ev_bl {n : Bool} : EvR ε K (tC (.bl n)) σ W n := fun W1 g1 Q k => k _ W1 g1.rf rfl
theorem ev_str {n : Str} : EvR ε K (tC (.str n)) σ W n := fun W1 g1 Q k => k _ W1 g1.rf rfl
theorem ev_non : EvR ε K (tC .non) σ W () := fun W1 g1 Q k => k _ W1 g1.rf rfl
theorem ev_raw {n : V} : EvR ε K (tC n) σ W (Raw.mk n) := fun W1 g1 Q k => k _ W1 g1.rf rfl
theorem ev_rvar {i : Nat} (h : σ[i]? = some (some v)) : EvR ε K (tVar i) σ W (Raw.mk v) := fun W1 g1 Q k => ⟨v, h, k v W1 g1.rf rfl⟩
theorem ev_op (ha : EvR ε K ta σ W x) (hb : EvR ε K tb σ W y) (hr : RO K r x y z) : EvR ε K (tOp r ta tb) σ W z := fun W1 g1 Q k =>
  ha W1 g1 _ fun a W2 g2 ra => hb W2 (g1.trans g2) _ fun b W3 g3 rb => hr a b W3 (rep_s g3 ra) rb Q fun w W4 g4 rw' => k w W4 ((g2.trans g3).and g4) rw'
theorem ev_un {r : V → Hp → VK → Prop} (ha : EvR ε K ta σ W x) (hr : RU K r x y) : EvR ε K (tUn r ta) σ W y := fun W1 g1 Q k =>
  ha W1 g1 _ fun a W2 g2 ra => hr a W2 ra Q fun w W4 g4 rw' => k w W4 (g2.and g4) rw'
theorem ev_cb1 {r : List V → Hp → VK → Prop} (ha : EvR ε K ta σ W x) (hr : RC1 K r x y) : EvR ε K (tCB r (tCons ta tNil)) σ W y := fun W1 g1 Q k =>
  ha W1 g1 _ fun a W2 g2 ra => hr a W2 ra Q fun w W4 g4 rw' => k w W4 (g2.and g4) rw'
theorem ev_cb2 {r : List V → Hp → VK → Prop} (ha : EvR ε K ta σ W x) (hb : EvR ε K tb σ W y) (hr : RC2 K r x y z) : EvR ε K (tCB r (tCons ta (tCons tb tNil))) σ W z := fun W1 g1 Q k =>
  ha W1 g1 _ fun a W2 g2 ra => hb W2 (g1.trans g2) _ fun b W3 g3 rb => hr a b W3 (rep_s g3 ra) rb Q fun w W4 g4 rw' => k w W4 ((g2.trans g3).and g4) rw'
/-- a value that leaves the heap as it is -/
theorem ro_val (f : ∀ (v u : V) (W1 : Wd), rep K W1.B v x → rep K W1.B u y → ∀ Q : VK, (∀ w, rep K W1.B w z → Q w W1.H) → r v u W1.H Q) : RO K r x y z :=
  fun v u W1 rv ru Q k => f v u W1 rv ru Q fun w rw' => k w W1 (.refl _ _) rw'
theorem ro_I0 {g : Int → Int → Int} {i j : Int} : RO K (rI0 fun i j => .int (g i j)) i j (g i j) := ro_val fun _ _ _ rv ru Q k => ⟨i, j, rv, ru, k _ rfl⟩
theorem ro_B0 {g : Int → Int → Bool} {i j : Int} : RO K (rI0 fun i j => .bl (g i j)) i j (g i j) := ro_val fun _ _ _ rv ru Q k => ⟨i, j, rv, ru, k _ rfl⟩
theorem ro_I {C : Int → Int → Prop} {g : Int → Int → Int} {i j : Int} (hc : C i j) : RO K (rI C fun i j => .int (g i j)) i j (g i j) := ro_val fun _ _ _ rv ru Q k => ⟨i, j, rv, ru, hc, k _ rfl⟩
theorem ru_neg {i : Int} : RU K (rU fun i => .int (-i)) i (-i) := fun v W1 rv Q k => ⟨i, rv, k _ W1 (.refl _ _) rfl⟩
theorem ro_eqI {i j : Int} : RO K rEq i j (decide (i = j)) := ro_val fun v u _ rv ru Q k => by
  have e1 : v = .int i := rv
  have e2 : u = .int j := ru
  subst e1; subst e2
  refine ⟨rfl, k _ ?_⟩
  show V.bl _ = V.bl _
  congr 1
  simp
theorem ro_neI {i j : Int} : RO K rNe i j (!decide (i = j)) := ro_val fun v u _ rv ru Q k => by
  have e1 : v = .int i := rv
  have e2 : u = .int j := ru
  subst e1; subst e2
  refine ⟨rfl, k _ ?_⟩
  show V.bl _ = V.bl _
  congr 1
  simp
theorem ro_eqS {i j : Str} : RO K rEq i j (decide (i = j)) := ro_val fun v u _ rv ru Q k => by
  have e1 : v = .str i := rv
  have e2 : u = .str j := ru
  subst e1; subst e2
  refine ⟨rfl, k _ ?_⟩
  show V.bl _ = V.bl _
  congr 1
  simp
theorem ro_neS {i j : Str} : RO K rNe i j (!decide (i = j)) := ro_val fun v u _ rv ru Q k => by
  have e1 : v = .str i := rv
  have e2 : u = .str j := ru
  subst e1; subst e2
  refine ⟨rfl, k _ ?_⟩
  show V.bl _ = V.bl _
  congr 1
  simp
theorem ro_eqB {i j : Bool} : RO K rEq i j (decide (i = j)) := ro_val fun v u _ rv ru Q k => by
  have e1 : v = .bl i := rv
  have e2 : u = .bl j := ru
  subst e1; subst e2
  refine ⟨rfl, k _ ?_⟩
  show V.bl _ = V.bl _
  congr 1
  simp
theorem ro_neB {i j : Bool} : RO K rNe i j (!decide (i = j)) := ro_val fun v u _ rv ru Q k => by
  have e1 : v = .bl i := rv
  have e2 : u = .bl j := ru
  subst e1; subst e2
  refine ⟨rfl, k _ ?_⟩
  show V.bl _ = V.bl _
  congr 1
  simp
/-! places -/
theorem atI_ix {ζ : Type} {xs : List ζ} {i : Int} {v : ζ} (h : atI xs i = some v) : ∃ j, ixN xs.length i = some j ∧ xs[j]? = some v := by
  unfold atI at h
  cases e : ixN xs.length i with
  | none => rw [e] at h; cases h
  | some j => rw [e] at h; exact ⟨j, rfl, h⟩
theorem reps_at {vs : List V} {xs : List α} {H : Hp} {i : Int} (h : Reps K H vs xs) (e : atI xs i = some x) : ∃ v, atI vs i = some v ∧ rep K H v x := by
  obtain ⟨j, e1, e2⟩ := atI_ix e
  obtain ⟨v, h1, h2⟩ := Reps.get' h e2
  refine ⟨v, ?_, h2⟩
  unfold atI
  rw [Reps.len h, e1]
  exact h1
theorem ro_ixL {xs : List α} {i : Int} (h : atI xs i = some x) : RO K (rIxL K) xs i x := ro_val fun v u W1 rv ru Q k => by
  obtain ⟨a, vs, e1, s, r⟩ := rv
  have e2 : u = .int i := ru
  subst e1; subst e2
  obtain ⟨w, h1, h2⟩ := reps_at r h
  exact ⟨a, vs, i, w, rfl, rfl, SqL.of (W1.sub.el s), h1, k w h2⟩
theorem ro_ixT {xs : Tup α} {i : Int} (h : atI xs.items i = some x) : RO K (rIxT K) xs i x := ro_val fun v u W1 rv ru Q k => by
  obtain ⟨a, vs, e1, s, r⟩ := rv
  have e2 : u = .int i := ru
  subst e1; subst e2
  obtain ⟨w, h1, h2⟩ := reps_at r h
  exact ⟨a, vs, i, w, rfl, rfl, SqT.of (W1.sub.et s), h1, k w h2⟩
theorem ro_ixP0 {p : α × β} : RO K (rIxT K) p (0 : Int) p.1 := ro_val fun v u W1 rv ru Q k => by
  obtain ⟨a, x, y, e1, s, r1, r2⟩ := rv
  have e2 : u = .int 0 := ru
  subst e1; subst e2
  exact ⟨a, _, 0, x, rfl, rfl, SqT.of (W1.sub.et s), rfl, k x r1⟩
theorem ro_ixP1 {p : α × β} : RO K (rIxT K) p (1 : Int) p.2 := ro_val fun v u W1 rv ru Q k => by
  obtain ⟨a, x, y, e1, s, r1, r2⟩ := rv
  have e2 : u = .int 1 := ru
  subst e1; subst e2
  exact ⟨a, _, 1, y, rfl, rfl, SqT.of (W1.sub.et s), rfl, k y r2⟩
theorem ro_eqT [DecidableEq α] [Datum α] [PyD α] {x y : α} (hd : Datum.depth α ≤ 60) : RO K (rEqT K false) x y (decide (x = y)) := ro_val fun v u W1 rv ru Q k => ⟨α, _, _, x, y, PyD.dp (rep_h rv), PyD.dp (rep_h ru), hd, k _ rfl⟩
theorem ro_neT [DecidableEq α] [Datum α] [PyD α] {x y : α} (hd : Datum.depth α ≤ 60) : RO K (rEqT K true) x y (!decide (x = y)) := ro_val fun v u W1 rv ru Q k => ⟨α, _, _, x, y, PyD.dp (rep_h rv), PyD.dp (rep_h ru), hd, k _ rfl⟩
theorem ro_ltT [DecidableEq α] [DatumOrd α] [PyD α] {x y : α} (hd : Datum.depth α ≤ 60) : RO K (rLtT K) x y (DatumOrd.lt x y) := ro_val fun v u W1 rv ru Q k => ⟨α, _, _, x, y, PyD.dp (rep_h rv), PyD.dp (rep_h ru), hd, k _ rfl⟩
theorem ro_inL [DecidableEq α] [Datum α] [PyD α] {x : α} {y : List α} (hd : Datum.depth α ≤ 60) : RO K (rInTL K false) x y (decide (x ∈ y)) := ro_val fun v u W1 rv ru Q k => ⟨α, _, _, x, y, PyD.dp (rep_h rv), PyD.dp (rep_h ru), hd, k _ rfl⟩
theorem ro_ninL [DecidableEq α] [Datum α] [PyD α] {x : α} {y : List α} (hd : Datum.depth α ≤ 60) : RO K (rInTL K true) x y (!decide (x ∈ y)) := ro_val fun v u W1 rv ru Q k => ⟨α, _, _, x, y, PyD.dp (rep_h rv), PyD.dp (rep_h ru), hd, k _ rfl⟩
theorem ro_inT [DecidableEq α] [Datum α] [PyD α] {x : α} {y : Tup α} (hd : Datum.depth α ≤ 60) : RO K (rInTT K false) x y (decide (x ∈ y.items)) := ro_val fun v u W1 rv ru Q k => ⟨α, _, _, x, y, PyD.dp (rep_h rv), PyD.dp (rep_h ru), hd, k _ rfl⟩
theorem ro_ninT [DecidableEq α] [Datum α] [PyD α] {x : α} {y : Tup α} (hd : Datum.depth α ≤ 60) : RO K (rInTT K true) x y (!decide (x ∈ y.items)) := ro_val fun v u W1 rv ru Q k => ⟨α, _, _, x, y, PyD.dp (rep_h rv), PyD.dp (rep_h ru), hd, k _ rfl⟩
/-- a new list that may change -/
def EvN (ε : Ef) (K : Fg) (te : TE) (σ : SS) (W : Wd) (xs : List α) : Prop :=
  ∀ W1, Stp ε W W1 → ∀ Q : VK, (∀ p vs W2, Stp ε W1 W2 → W1.H p = none → W2.B p = none → W2.H p = some (.lst vs) → Reps K W2.B vs xs → Q (.ref p) W2.H) → te σ W1.H Q
theorem Stp.fix {W W' : Wd} (g : Stp ε W W') {p : Addr} {o : HO} (f : W.H p = none) (i : ε.I W) (h : W'.H p = some o) (n : W'.B p = none) : Stp ε W (W'.fix p o h) :=
  ⟨md_fix g.md h n f, i_fix (Ef.off i f) g.i h n⟩
theorem EvN.toR {xs : List α} (h : EvN ε K te σ W xs) : EvR ε K te σ W xs := fun W1 g1 Q k => h W1 g1 Q fun p vs W2 g2 f n e r =>
  k _ (W2.fix p _ e) (g2.fix f g1.i e n) ⟨p, vs, rfl, upd_same, Reps.mono (exExt (ex_fix e n)) r⟩
/-! displays -/
theorem ea_nil : EvAs ε K tNil σ W ([] : List α) := fun W1 g1 Q k => k [] W1 g1.rf .nil
theorem ea_cons {tr : TA} {xs : List α} (h : EvR ε K ta σ W x) (hr : EvAs ε K tr σ W xs) : EvAs ε K (tCons ta tr) σ W (x :: xs) := fun W1 g1 Q k =>
  h W1 g1 _ fun a W2 g2 ra => hr W2 (g1.trans g2) _ fun vs W3 g3 rs => k (a :: vs) W3 (g2.trans g3) (.cons (rep_s g3 ra) rs)
theorem ev_lst {ta : TA} {xs : List α} (h : EvAs ε K ta σ W xs) (hl : xs.length ≤ 100000) : EvR ε K (tLst ta) σ W xs := fun W1 g1 Q k =>
  h W1 g1 _ fun vs W2 g2 rs => ⟨Evl.sz_of (by rw [Reps.len rs]; exact hl), fun p hp => k _ (W2.add p (.lst vs)) (g2.and (W2.grow_add hp)) ⟨p, vs, rfl, upd_same, Reps.mono (exExt (W2.grow_add hp).b) rs⟩⟩
theorem en_lst {ta : TA} {xs : List α} (h : EvAs ε K ta σ W xs) (hl : xs.length ≤ 100000) : EvN ε K (tLst ta) σ W xs := fun W1 g1 Q k =>
  h W1 g1 _ fun vs W2 g2 rs => ⟨Evl.sz_of (by rw [Reps.len rs]; exact hl), fun p hp => k p vs (W2.put p (.lst vs) (W2.free hp)) (g2.and (W2.grow_put hp)) (by
    cases e : W1.H p with
    | none => rfl
    | some o => exact absurd hp (g2.md.d p (by rw [e]; exact fun z => by cases z))) (W2.free hp) upd_same rs⟩
theorem ev_tupN {ta : TA} {xs : List α} (h : EvAs ε K ta σ W xs) (hl : xs.length ≤ 100000) : EvR ε K (tTup ta) σ W (Tup.mk xs) := fun W1 g1 Q k =>
  h W1 g1 _ fun vs W2 g2 rs => ⟨Evl.sz_of (by rw [Reps.len rs]; exact hl), fun p hp => k _ (W2.add p (.tup vs)) (g2.and (W2.grow_add hp)) ⟨p, vs, rfl, upd_same, Reps.mono (exExt (W2.grow_add hp).b) rs⟩⟩
theorem ev_pair (ha : EvR ε K ta σ W x) (hb : EvR ε K tb σ W y) : EvR ε K (tTup (tCons ta (tCons tb tNil))) σ W (x, y) := fun W1 g1 Q k =>
  ha W1 g1 _ fun a W2 g2 ra => hb W2 (g1.trans g2) _ fun b W3 g3 rb => ⟨Evl.sz_of (by show 2 ≤ 100000; decide), fun p hp =>
    k _ (W3.add p (.tup [a, b])) ((g2.trans g3).and (W3.grow_add hp)) ⟨p, a, b, rfl, upd_same, rep_g (W3.grow_add hp) (rep_s g3 ra), rep_g (W3.grow_add hp) rb⟩⟩
theorem ev_t3 {tc : TE} (ha : EvR ε K ta σ W x) (hb : EvR ε K tb σ W y) (hc : EvR ε K tc σ W z) : EvR ε K (tTup (tCons ta (tCons tb (tCons tc tNil)))) σ W (T3.mk x y z) := fun W1 g1 Q k =>
  ha W1 g1 _ fun a W2 g2 ra => hb W2 (g1.trans g2) _ fun b W3 g3 rb => hc W3 ((g1.trans g2).trans g3) _ fun c W4 g4 rc => ⟨Evl.sz_of (by show 3 ≤ 100000; decide), fun p hp =>
    k _ (W4.add p (.tup [a, b, c])) (((g2.trans g3).trans g4).and (W4.grow_add hp)) ⟨p, a, b, c, rfl, upd_same, rep_g (W4.grow_add hp) (rep_s g4 (rep_s g3 ra)), rep_g (W4.grow_add hp) (rep_s g4 rb), rep_g (W4.grow_add hp) rc⟩⟩
/-! tests -/
theorem et_test {b : Bool} (h : EvR ε K te σ W b) : EvT ε (tTest te) σ W b := fun W1 g1 Q k => h W1 g1 _ fun v W2 g2 r => ⟨b, r, k W2 g2⟩
theorem et_B {b : Bool} (h : EvR ε K te σ W b) : EvT ε (tB te) σ W b := fun W1 g1 Q k => h W1 g1 _ fun v W2 g2 r => ⟨b, r, k W2 g2⟩
theorem et_and {a b : Bool} (h1 : EvT ε t σ W a) (h2 : a = true → EvT ε u σ W b) : EvT ε (tAnd t u) σ W (a && b) := fun W1 g1 Q k => h1 W1 g1 _ fun W2 g2 => by
  cases a with
  | false => exact k W2 g2
  | true => exact h2 rfl W2 (g1.trans g2) _ fun W3 g3 => k W3 (g2.trans g3)
theorem et_or {a b : Bool} (h1 : EvT ε t σ W a) (h2 : a = false → EvT ε u σ W b) : EvT ε (tOr t u) σ W (a || b) := fun W1 g1 Q k => h1 W1 g1 _ fun W2 g2 => by
  cases a with
  | true => exact k W2 g2
  | false => exact h2 rfl W2 (g1.trans g2) _ fun W3 g3 => k W3 (g2.trans g3)
theorem et_not {a : Bool} (h1 : EvT ε t σ W a) : EvT ε (tNot t) σ W (!a) := fun W1 g1 Q k => h1 W1 g1 _ fun W2 g2 => k W2 g2
theorem ev_andV {a b : Bool} (h1 : EvR ε K ta σ W a) (h2 : a = true → EvR ε K tb σ W b) : EvR ε K (tAndV ta tb) σ W (a && b) := fun W1 g1 Q k => h1 W1 g1 _ fun v W2 g2 r => ⟨a, r, by
  cases a with
  | false => exact k _ W2 g2 rfl
  | true => exact h2 rfl W2 (g1.trans g2) _ fun v W3 g3 r => k v W3 (g2.trans g3) r⟩
theorem ev_orV {a b : Bool} (h1 : EvR ε K ta σ W a) (h2 : a = false → EvR ε K tb σ W b) : EvR ε K (tOrV ta tb) σ W (a || b) := fun W1 g1 Q k => h1 W1 g1 _ fun v W2 g2 r => ⟨a, r, by
  cases a with
  | true => exact k _ W2 g2 rfl
  | false => exact h2 rfl W2 (g1.trans g2) _ fun v W3 g3 r => k v W3 (g2.trans g3) r⟩
theorem ev_notV {a : Bool} (h1 : EvR ε K ta σ W a) : EvR ε K (tNotV ta) σ W (!a) := fun W1 g1 Q k => h1 W1 g1 _ fun v W2 g2 r => ⟨a, r, k _ W2 g2 rfl⟩
theorem ev_if {b : Bool} {x' : α} (h : EvT ε t σ W b) (h1 : b = true → EvR ε K ta σ W x) (h2 : b = false → EvR ε K tb σ W x') : EvR ε K (tIf t ta tb) σ W (if b then x else x') := fun W1 g1 Q k => h W1 g1 _ fun W2 g2 => by
  cases b with
  | true => exact h1 rfl W2 (g1.trans g2) _ fun v W3 g3 r => k v W3 (g2.trans g3) r
  | false => exact h2 rfl W2 (g1.trans g2) _ fun v W3 g3 r => k v W3 (g2.trans g3) r
/-! calls of built-ins -/
def rMin2 : List V → Hp → VK → Prop := fun xs H Q => ∃ i j, xs = [.int i, .int j] ∧ Q (.int (if j < i then j else i)) H
def rMax2 : List V → Hp → VK → Prop := fun xs H Q => ∃ i j, xs = [.int i, .int j] ∧ Q (.int (if j > i then j else i)) H
def rAbs : List V → Hp → VK → Prop := fun xs H Q => ∃ i, xs = [.int i] ∧ Q (.int (if i < 0 then -i else i)) H
def rLen (K : Fg) : List V → Hp → VK → Prop := fun xs H Q => ∃ p ys, xs = [.ref p] ∧ (SqL K H p ys ∨ SqT K H p ys) ∧ Q (.int ys.length) H
def rLenS : List V → Hp → VK → Prop := fun xs H Q => ∃ z, xs = [.str z] ∧ z.length ≤ sizeLine ∧ Q (.int z.length) H
def rListO (K : Fg) : List V → Hp → VK → Prop := fun xs H Q => ∃ p ys, xs = [.ref p] ∧ (SqL K H p ys ∨ SqT K H p ys) ∧ ∀ l, H l = none → Q (.ref l) (upd H l (.lst ys))
def rDictC : List V → Hp → VK → Prop := fun xs H Q => ∃ a kvs, xs = [.ref a] ∧ Rd H a (.dK kvs) ∧ ∀ p, H p = none → Q (.ref p) (upd H p (.dK kvs))
section
variable {X : Cx}
theorem cr_min2 (hc : X.calm = true) : CallR X (.builtin "min") rMin2 := call_min2 hc
theorem cr_max2 (hc : X.calm = true) : CallR X (.builtin "max") rMax2 := call_max2 hc
theorem cr_abs : CallR X (.builtin "abs") rAbs := call_abs
theorem cr_len : CallR X (.builtin "len") (rLen X.K) := call_len_seq
theorem cr_lenS : CallR X (.builtin "len") rLenS := call_len_str
theorem cr_listO : CallR X (.type "list") (rListO X.K) := call_list_of
theorem cr_dictC : CallR X (.type "dict") rDictC := by
  intro pins s σ H xs us Q I r h
  obtain ⟨a, kvs, rfl, rd, k⟩ := h
  cases r with
  | cons r rr =>
    cases rr
    cases r
    exact d_copyOf I rd fun p s' hp I' => ⟨.ref p, _, I', rfl, k p hp⟩
end
theorem rc_min2 {i j : Int} : RC2 K rMin2 i j (if j < i then j else i) := fun v u W1 rv ru Q k => ⟨i, j, by rw [show v = _ from rv, show u = _ from ru], k _ W1 (.refl _ _) rfl⟩
theorem rc_max2 {i j : Int} : RC2 K rMax2 i j (if j > i then j else i) := fun v u W1 rv ru Q k => ⟨i, j, by rw [show v = _ from rv, show u = _ from ru], k _ W1 (.refl _ _) rfl⟩
theorem rc_abs {i : Int} : RC1 K rAbs i (if i < 0 then -i else i) := fun v W1 rv Q k => ⟨i, by rw [show v = _ from rv], k _ W1 (.refl _ _) rfl⟩
theorem rc_len {xs : List α} : RC1 K (rLen K) xs (xs.length : Int) := fun v W1 ⟨a, vs, e, s, r⟩ Q k => ⟨a, vs, by rw [e], .inl (SqL.of (W1.sub.el s)), by
  rw [Reps.len r]; exact k _ W1 (.refl _ _) rfl⟩
theorem rc_lenT {xs : Tup α} : RC1 K (rLen K) xs (xs.items.length : Int) := fun v W1 ⟨a, vs, e, s, r⟩ Q k => ⟨a, vs, by rw [e], .inr (SqT.of (W1.sub.et s)), by
  rw [Reps.len r]; exact k _ W1 (.refl _ _) rfl⟩
theorem rc_lenS {x : Str} (h : x.length ≤ 100000) : RC1 K rLenS x (x.length : Int) := fun v W1 e Q k => ⟨x, by rw [show v = _ from e], Evl.sz_of h, k _ W1 (.refl _ _) rfl⟩
theorem rc_list {xs : List α} : RC1 K (rListO K) xs xs := fun v W1 ⟨a, vs, e, s, r⟩ Q k => ⟨a, vs, by rw [e], .inl (SqL.of (W1.sub.el s)), fun l hl =>
  k _ (W1.add l (.lst vs)) (W1.grow_add hl) ⟨l, vs, rfl, upd_same, Reps.mono (exExt (W1.grow_add hl).b) r⟩⟩
theorem rc_listT {xs : Tup α} : RC1 K (rListO K) xs xs.items := fun v W1 ⟨a, vs, e, s, r⟩ Q k => ⟨a, vs, by rw [e], .inr (SqT.of (W1.sub.et s)), fun l hl =>
  k _ (W1.add l (.lst vs)) (W1.grow_add hl) ⟨l, vs, rfl, upd_same, Reps.mono (exExt (W1.grow_add hl).b) r⟩⟩
theorem rc_sum {xs : List Int} : RC1 K (rSum K) xs xs.sum := fun v W1 ⟨a, vs, e, s, r⟩ Q k => ⟨a, xs, by rw [e], by rw [← reps_int r]; exact SqL.of (W1.sub.el s), k _ W1 (.refl _ _) rfl⟩
/-- sorted: whatever stands in order with the same items -/
theorem rc_sortedI {xs ys : List Int} (hp : ys.Perm xs) (ho : ys.Pairwise (· ≤ ·)) : RC1 K (rSortedI K) xs ys := fun v W1 ⟨a, vs, e, s, r⟩ Q k => ⟨a, xs, by rw [e], by rw [← reps_int r]; exact SqL.of (W1.sub.el s), fun ns' p h1 h2 hp0 => by
  have e2 : ns' = ys := (h1.trans hp.symm).eq_of_pairwise (fun a b _ _ h h' => Int.le_antisymm h h') h2 ho
  subst e2
  exact k _ (W1.add p _) (W1.grow_add hp0) ⟨p, _, rfl, upd_same, int_reps _⟩⟩
theorem rc_all {xs : List Bool} : RC1 K (rAll K) xs (xs.all id) := fun v W1 ⟨a, vs, e, s, r⟩ Q k => ⟨a, xs, by rw [e], by rw [← reps_bl r]; exact SqL.of (W1.sub.el s), k _ W1 (.refl _ _) rfl⟩
theorem rc_any {xs : List Bool} : RC1 K (rAny K) xs (xs.any id) := fun v W1 ⟨a, vs, e, s, r⟩ Q k => ⟨a, xs, by rw [e], by rw [← reps_bl r]; exact SqL.of (W1.sub.el s), k _ W1 (.refl _ _) rfl⟩
/-- isinstance of one built-in class -/
theorem rc_isi {c a : String} {b : Bool} (ht : ∀ (W1 : Wd) v, rep K W1.B v x → TyX K W1.H v (.type a)) (hk : kitB a c = some b) : RC2 K (rIsi K) x (Raw.mk (.ty c)) b := fun v u W1 rv ru Q k =>
  ⟨v, u, .type a, .type c, b, by rw [show u = _ from ru], by rw [show u = _ from ru]; exact .ty c, ht W1 v rv, kit_ty hk, k _ W1 (.refl _ _) rfl⟩
theorem ty_int {i : Int} (W1 : Wd) (v : V) (h : rep K W1.B v i) : TyX K W1.H v (.type "int") := by rw [show v = _ from h]; exact .base (.int i)
theorem ty_str {i : Str} (W1 : Wd) (v : V) (h : rep K W1.B v i) : TyX K W1.H v (.type "str") := by rw [show v = _ from h]; exact .base (.str i)
theorem ty_bl {i : Bool} (W1 : Wd) (v : V) (h : rep K W1.B v i) : TyX K W1.H v (.type "bool") := by rw [show v = _ from h]; exact .base (.bl i)
theorem ty_non (W1 : Wd) (v : V) (h : rep K W1.B v ()) : TyX K W1.H v (.type "NoneType") := by rw [show v = _ from h]; exact .base .non
/-- {} -/
theorem ed_new {κ : Type} [PyKey κ] : EvD ε K tDNewK σ W (⟨[]⟩ : Dict κ α) := fun W1 g1 Q k p hp => k _ (W1.add p (.dK [])) (g1.rf.and (W1.grow_add hp)) ⟨p, [], rfl, upd_same, upd_same, .nil⟩
/-- dict(d) -/
theorem ed_copy {κ : Type} [PyKey κ] {d : Dict κ α} (h : EvR ε K te σ W d) : EvD ε K (tCB rDictC (tCons te tNil)) σ W d := fun W1 g1 Q k => h W1 g1 _ fun v W2 g2 ⟨a, ks, e, rd, r⟩ =>
  ⟨a, ks, by rw [e], W2.sub.rd rd, fun p hp => k _ (W2.add p (.dK ks)) (g2.and (W2.grow_add hp)) ⟨p, ks, rfl, upd_same, upd_same, KReps.mono (exExt (W2.grow_add hp).b) r⟩⟩
/-- list(d.items()) of an unlocked dict -/
theorem ev_listItems {κ : Type} [PyKV κ] {d : Dict κ α} (h : EvD ε K te σ W d) : EvR ε K (LiI.tListItems te) σ W d.kv := fun W1 g1 Q k => h W1 g1 _ fun v W2 g2 ⟨a, ks, e, hB, hH, r⟩ => by
  refine ⟨a, ks, e, hH, fun H' p ts hx hp hts hpt hl hpr => ?_⟩
  -- the new world
  let B' : Hp := fun b => match W2.B b with
    | some o => some o
    | none => if b = p then H' p else if b ∈ ts then H' b else none
  have hB' : ∀ b o, W2.B b = some o → B' b = some o := fun b o q => by show (match W2.B b with | some o => some o | none => _) = some o; rw [q]
  have hnew : ∀ b, W2.H b = none → B' b = (if b = p then H' p else if b ∈ ts then H' b else none) := fun b q => by
    show (match W2.B b with | some o => some o | none => _) = _
    rw [W2.free q]
  have sub : Ext B' H' := fun b o q => by
    cases e2 : W2.B b with
    | some o' =>
      have : B' b = some o' := hB' b o' e2
      rw [this] at q; cases q
      rcases W2.sub b o e2 with h1 | ⟨h0, ob, h1⟩
      · exact .inl (hx b o h1)
      · exact .inr ⟨h0, ob, hx b _ h1⟩
    | none =>
      have : B' b = (if b = p then H' p else if b ∈ ts then H' b else none) := by
        show (match W2.B b with | some o => some o | none => _) = _
        rw [e2]
      rw [this] at q
      by_cases z : b = p
      · rw [if_pos z] at q; rw [z]; exact .inl q
      · rw [if_neg z] at q
        by_cases z2 : b ∈ ts
        · rw [if_pos z2] at q; exact .inl q
        · rw [if_neg z2] at q; cases q
  let W3 : Wd := ⟨B', H', sub⟩
  have gr : Grow W2 W3 := .mk hB' hx fun b hb => by
    show B' b = W2.B b
    cases e2 : W2.B b with
    | some o' => exact hB' b o' e2
    | none =>
      have : B' b = (if b = p then H' p else if b ∈ ts then H' b else none) := by
        show (match W2.B b with | some o => some o | none => _) = _
        rw [e2]
      rw [this, if_neg (fun z => hb.ne (by rw [z]; exact hp)), if_neg (fun z => hb.ne (hts b z))]
  refine k _ W3 (g2.and gr) ⟨p, ts.map V.ref, rfl, by show B' p = _; rw [hnew p hp, if_pos rfl]; exact hl, ?_⟩
  have r3 : KReps K W3.B ks d.kv := KReps.mono (exExt gr.b) r
  clear k
  have hts' : ∀ t ∈ ts, B' t = H' t := fun t ht => by
    rw [hnew t (hts t ht), if_neg (fun z => hpt (by rw [← z]; exact ht)), if_pos ht]
  have main : ∀ (ts : List Addr) (ks : List (Key × V)) (kv : List (κ × α)), (∀ t ∈ ts, B' t = H' t) → Paired (fun (t : Addr) (q : Key × V) => H' t = some (.tup [kV q.1, q.2])) ts ks → KReps K B' ks kv → Reps K B' (ts.map V.ref) kv := by
    intro ts
    induction ts with
    | nil => intro ks kv _ a b; cases a; cases b; exact .nil
    | cons t ts ih =>
      intro ks kv h a b
      cases a with
      | cons a1 a2 =>
        cases b with
        | cons b1 b2 =>
          refine .cons ⟨t, _, _, rfl, (h t List.mem_cons_self).trans a1, ?_, b1.2⟩ (ih _ _ (fun t' ht' => h t' (List.mem_cons_of_mem _ ht')) a2 b2)
          rw [b1.1]
          exact PyKV.krep _ _ _
  exact main ts ks d.kv hts' hpr r3
/-! slices -/
def cutL (xs : List α) (lo hi : Option Int) : List α := (xs.drop (HT.sIx xs.length 0 lo)).take (HT.sIx xs.length xs.length hi - HT.sIx xs.length 0 lo)
theorem eo_none : EvO ε tNoPart σ W none := fun W1 g1 Q k => k W1 g1.rf
theorem eo_some {i : Int} (h : EvR ε K te σ W i) : EvO ε (tPart te) σ W (some i) := fun W1 g1 Q k => h W1 g1 _ fun v W2 g2 r => ⟨i, r, k W2 g2⟩
theorem ev_slL {tl th : TO} {xs : List α} {lo hi : Option Int} (h : EvR ε K te σ W xs) (h1 : EvO ε tl σ W lo) (h2 : EvO ε th σ W hi) : EvR ε K (tSl (rSlL K) te tl th) σ W (cutL xs lo hi) := fun W1 g1 Q k =>
  h W1 g1 _ fun v W2 g2 rx => h1 W2 (g1.trans g2) _ fun W3 g3 => h2 W3 ((g1.trans g2).trans g3) _ fun W4 g4 => by
    obtain ⟨a, vs, e, s, r⟩ := rep_s g4 (rep_s g3 rx)
    refine ⟨a, vs, e, SqL.of (W4.sub.el s), fun p hp => k _ (W4.add p _) (((g2.trans g3).trans g4).and (W4.grow_add hp)) ⟨p, _, rfl, upd_same, Reps.mono (exExt (W4.grow_add hp).b) ?_⟩⟩
    unfold cutV cutL
    rw [Reps.len r]
    exact Reps.take _ (Reps.drop _ r)
theorem ev_revL {xs : List α} (h : EvR ε K te σ W xs) : EvR ε K (tRevL K te) σ W xs.reverse := fun W1 g1 Q k => h W1 g1 _ fun v W2 g2 ⟨a, vs, e, s, r⟩ =>
  ⟨a, vs, e, SqL.of (W2.sub.el s), fun p hp => k _ (W2.add p _) (g2.and (W2.grow_add hp)) ⟨p, _, rfl, upd_same, Reps.mono (exExt (W2.grow_add hp).b) (Reps.rev r)⟩⟩
end

/-! ### what is walked -/
/-- J walks xs in every world that S tells -/
structure Src {α : Type} [Py α] (K : Fg) (J : It) (S : Wd → Prop) (xs : List α) : Prop where
  go : ∀ i W', S W' → i < xs.length → J.go i W'.H
  yld : ∀ i W' v H'', S W' → i < xs.length → J.yld i W'.H v H'' → ∃ x W'', W''.H = H'' ∧ Grow W' W'' ∧ xs[i]? = some x ∧ rep K W''.B v x
  stop : ∀ i W', S W' → xs.length ≤ i → J.stop i W'.H
def EvI {α : Type} [Py α] (ε : Ef) (K : Fg) (wi : TI) (σ : SS) (W : Wd) (xs : List α) : Prop :=
  ∀ W1, Stp ε W W1 → ∀ R : It → Hp → Prop, (∀ J S W2, Stp ε W1 W2 → S W2 → (∀ W W', S W → Stp ε W W' → S W') → Src K J S xs → R J W2.H) → wi σ W1.H R
def EvJ {α : Type} [Py α] (ε : Ef) (K : Fg) (wi : TI) (σ : SS) (W : Wd) (xs : List α) : Prop :=
  ∀ W1, Stp ε W W1 → ∀ R : It → Hp → Prop, (∀ J W2, Stp ε W1 W2 → Src K J (On W2) xs → R J W2.H) → wi σ W1.H R
section
variable {α β γ : Type} [Py α] [Py β] [Py γ] {K : Fg} {σ : SS} {W W' : Wd} {v : V} {te ta tb : TE} {wi : TI} {ε : Ef}
theorem EvJ.i {xs : List α} (h : EvJ ε K wi σ W xs) : EvI ε K wi σ W xs := fun W1 g1 R k => h W1 g1 R fun J W2 g2 s => k J (On W2) W2 g2 (.refl _) (fun _ _ a b => a.trans b.on) s
theorem ei_list {xs : List α} (h : EvR ε K te σ W xs) : EvJ ε K (iList K te) σ W xs := fun W1 g1 R k => h W1 g1 _ fun v W2 g2 ⟨a, vs, e, s, r⟩ =>
  ⟨a, e, ⟨vs, SqL.of (W2.sub.el s)⟩, k (Itl K a) W2 g2 ⟨fun i W' o hi => by
      obtain ⟨x, hx⟩ : ∃ x, xs[i]? = some x := ⟨xs[i], by simp [hi]⟩
      obtain ⟨v, h1, _⟩ := Reps.get' r hx
      exact ⟨vs, v, SqL.of (W'.sub.el (o.b _ _ s)), h1⟩,
    fun i W' v H'' o hi ⟨e1, e2⟩ => by
      obtain ⟨x, h1, h2⟩ := Reps.get r (e2 vs (SqL.of (W'.sub.el (o.b _ _ s))))
      exact ⟨x, W', e1.symm, .refl _ _, h1, rex o.b h2⟩,
    fun i W' o hi => ⟨vs, SqL.of (W'.sub.el (o.b _ _ s)), by rw [Reps.len r]; exact hi⟩⟩⟩
theorem ei_tup {xs : Tup α} (h : EvR ε K te σ W xs) : EvJ ε K (iTup K te) σ W xs.items := fun W1 g1 R k => h W1 g1 _ fun v W2 g2 ⟨a, vs, e, s, r⟩ =>
  ⟨a, e, ⟨vs, SqT.of (W2.sub.et s)⟩, k (Itt K a) W2 g2 ⟨fun i W' o hi => by
      obtain ⟨x, hx⟩ : ∃ x, xs.items[i]? = some x := ⟨xs.items[i], by simp [hi]⟩
      obtain ⟨v, h1, _⟩ := Reps.get' r hx
      exact ⟨vs, v, SqT.of (W'.sub.et (o.b _ _ s)), h1⟩,
    fun i W' v H'' o hi ⟨e1, e2⟩ => by
      obtain ⟨x, h1, h2⟩ := Reps.get r (e2 vs (SqT.of (W'.sub.et (o.b _ _ s))))
      exact ⟨x, W', e1.symm, .refl _ _, h1, rex o.b h2⟩,
    fun i W' o hi => ⟨vs, SqT.of (W'.sub.et (o.b _ _ s)), by rw [Reps.len r]; exact hi⟩⟩⟩
/-- lo, lo + 1, .. -/
def rng (lo : Int) (n : Nat) : List Int := (List.range n).map fun i => lo + (i : Nat)
theorem rng_len (lo : Int) (n : Nat) : (rng lo n).length = n := by unfold rng; simp
theorem rng_get {lo : Int} {n i : Nat} (h : i < n) : (rng lo n)[i]? = some (lo + (i : Nat)) := by unfold rng; simp [h]
theorem rng_mem {lo k : Int} {n : Nat} : k ∈ rng lo n ↔ lo ≤ k ∧ k < lo + n := by
  unfold rng
  simp only [List.mem_map, List.mem_range]
  constructor
  · rintro ⟨i, h, rfl⟩; omega
  · rintro ⟨h1, h2⟩; exact ⟨(k - lo).toNat, by omega, by omega⟩
theorem src_range {lo : Int} {n : Nat} {S : Wd → Prop} : Src K (Itr lo n) S (rng lo n) :=
  ⟨fun i W' _ hi => by rw [rng_len] at hi; exact hi, fun i W' v H'' _ hi ⟨e1, e2⟩ => ⟨_, W', e1.symm, .refl _ _, rng_get (by rw [rng_len] at hi; exact hi), e2⟩,
    fun i W' _ hi => by rw [rng_len] at hi; exact hi⟩
theorem ei_rng1 {n : Int} (h : EvR ε K ta σ W n) (hn : n ≤ 1000000000) (hm : -1000000000 ≤ n) : EvJ ε K (iRng1 (tCons ta tNil)) σ W (rng 0 n.toNat) := fun W1 g1 R k => h W1 g1 _ fun v W2 g2 r =>
  ⟨n, by rw [show v = _ from r], by omega, by omega, k _ W2 g2 src_range⟩
theorem ei_rng2 {m n : Int} (ha : EvR ε K ta σ W m) (hb : EvR ε K tb σ W n) (h1 : m ≤ 1000000000 ∧ -1000000000 ≤ m ∧ n ≤ 1000000000 ∧ -1000000000 ≤ n) : EvJ ε K (iRng2 (tCons ta (tCons tb tNil))) σ W (rng m (n - m).toNat) := fun W1 g1 R k => ha W1 g1 _ fun v W2 g2 r =>
  hb W2 (g1.trans g2) _ fun u W3 g3 ru => ⟨m, n, by rw [show v = _ from r, show u = _ from ru], by omega, k _ W3 (g2.trans g3) src_range⟩
theorem ei_enum {xs : List α} (h : EvR ε K te σ W xs) : EvJ ε K (iEnum K (tCons te tNil)) σ W ((rng 0 xs.length).zip xs) := fun W1 g1 R k => h W1 g1 _ fun v W2 g2 ⟨a, vs, e, s, r⟩ =>
  ⟨a, vs, by rw [e], SqL.of (W2.sub.el s), k (Ite K a) W2 g2 ⟨fun i W' o hi => by
      have hi' : i < xs.length := by simp [rng_len] at hi; exact hi
      obtain ⟨x, hx⟩ : ∃ x, xs[i]? = some x := ⟨xs[i], by simp [hi']⟩
      obtain ⟨v, h1, _⟩ := Reps.get' r hx
      exact ⟨vs, v, SqL.of (W'.sub.el (o.b _ _ s)), h1⟩,
    fun i W' v H'' o hi ⟨T, x, e1, hT, e2, e3⟩ => by
      have hi' : i < xs.length := by simp [rng_len] at hi; exact hi
      obtain ⟨y, h1, h2⟩ := Reps.get r (e3 vs (SqL.of (W'.sub.el (o.b _ _ s))))
      refine ⟨((i : Int), y), W'.add T _, e2.symm, W'.grow_add hT, ?_, T, .int (i : Nat), x, e1, upd_same, rfl, rep_g (W'.grow_add hT) (rex o.b h2)⟩
      rw [List.getElem?_zip_eq_some]
      exact ⟨by rw [rng_get hi']; simp, h1⟩,
    fun i W' o hi => ⟨vs, SqL.of (W'.sub.el (o.b _ _ s)), by rw [Reps.len r]; simp [rng_len] at hi; exact hi⟩⟩⟩
theorem ei_zip {xs : List α} {ys : List β} (ha : EvR ε K ta σ W xs) (hb : EvR ε K tb σ W ys) : EvJ ε K (iZip K (tCons ta (tCons tb tNil))) σ W (xs.zip ys) := fun W1 g1 R k => ha W1 g1 _ fun v W2 g2 r1 => hb W2 (g1.trans g2) _ fun u W3 g3 r2 => by
  obtain ⟨a, vs, e, s, r⟩ := rep_s g3 r1
  obtain ⟨b, us, e', s', r'⟩ := r2
  refine ⟨a, b, vs, us, by rw [e, e'], SqL.of (W3.sub.el s), SqL.of (W3.sub.el s'), k (Itz K a b) W3 (g2.trans g3) ⟨fun i W' o hi => ?_, fun i W' v H'' o hi ⟨T, x, y, e1, hT, e2, e3, e4⟩ => ?_, fun i W' o hi => ?_⟩⟩
  · have hi' : i < xs.length ∧ i < ys.length := by simp at hi; omega
    obtain ⟨x, hx⟩ : ∃ x, xs[i]? = some x := ⟨xs[i], by simp [hi'.1]⟩
    obtain ⟨y, hy⟩ : ∃ x, ys[i]? = some x := ⟨ys[i], by simp [hi'.2]⟩
    obtain ⟨v, h1, _⟩ := Reps.get' r hx
    obtain ⟨u, h2, _⟩ := Reps.get' r' hy
    exact ⟨vs, us, v, u, SqL.of (W'.sub.el (o.b _ _ s)), SqL.of (W'.sub.el (o.b _ _ s')), h1, h2⟩
  · obtain ⟨p, h1, h2⟩ := Reps.get r (e3 vs (SqL.of (W'.sub.el (o.b _ _ s))))
    obtain ⟨q, h3, h4⟩ := Reps.get r' (e4 us (SqL.of (W'.sub.el (o.b _ _ s'))))
    refine ⟨(p, q), W'.add T _, e2.symm, W'.grow_add hT, ?_, T, x, y, e1, upd_same, rep_g (W'.grow_add hT) (rex o.b h2), rep_g (W'.grow_add hT) (rex o.b h4)⟩
    rw [List.getElem?_zip_eq_some]
    exact ⟨h1, h3⟩
  · refine ⟨vs, us, SqL.of (W'.sub.el (o.b _ _ s)), SqL.of (W'.sub.el (o.b _ _ s')), ?_⟩
    rw [Reps.len r, Reps.len r']
    simp at hi
    omega
end
end B
/-! B: comprehensions, locked dicts, statements, calls -/
namespace B
open PySem L2
open Evl (Ex)
/-! ### an iterated target -/
def GT {α : Type} [Py α] (K : Fg) (g : TG) (P : α → SS → SS → Wd → Prop) : Prop :=
  ∀ x v W σ (Q : SS → Hp → Prop), rep K W.B v x → (∀ σ2, P x σ σ2 W → Q σ2 W.H) → g v σ W.H Q
section
variable {α β γ : Type} [Py α] [Py β] [Py γ] {K : Fg} {σ : SS} {W W' : Wd} {v : V} {te ta tb : TE} {tt : TT} {wi : TI} {g : TG} {vs : List Nat} {ε : Ef}
def PN (K : Fg) (j : Nat) (x : α) (σ σ2 : SS) (W : Wd) : Prop := ∃ v, rep K W.B v x ∧ σ2 = σ.set j (some v)
def PP (K : Fg) (i j : Nat) (x : α × β) (σ σ2 : SS) (W : Wd) : Prop := ∃ v u, rep K W.B v x.1 ∧ rep K W.B u x.2 ∧ σ2 = (σ.set i (some v)).set j (some u)
theorem gt_name {j : Nat} : GT (α := α) K (gName j) (PN K j) := fun x v W σ Q r k => k _ ⟨v, r, rfl⟩
abbrev gPair (K : Fg) (i j : Nat) : TG := gTup K 2 (gCons (gName i) (gCons (gName j) gNil))
theorem gt_pair {i j : Nat} : GT (α := α × β) K (gPair K i j) (PP K i j) := fun x v W σ Q ⟨a, p, q, e, s, r1, r2⟩ k =>
  ⟨a, [p, q], e, SqT.of (W.sub.et s), rfl, p, [q], rfl, q, [], rfl, rfl, k _ ⟨p, q, r1, r2, rfl⟩⟩
/-! ### list comprehensions -/
theorem en_lc {xs : List α} {p : α → Bool} {f : α → β} {P : α → SS → SS → Wd → Prop} (hi : EvI ε K wi σ W xs) (hg : GT K g P)
    (hw : ∀ x σ2 W', P x (wipe σ vs) σ2 W' → wipe σ2 vs = wipe σ vs)
    (ht : ∀ x W' σ2, x ∈ xs → Stp ε W W' → P x (wipe σ vs) σ2 W' → EvT ε tt σ2 W' (p x))
    (he : ∀ x W' σ2, x ∈ xs → p x = true → Stp ε W W' → P x (wipe σ vs) σ2 W' → EvR ε K te σ2 W' (f x))
    (hP : ∀ x σ2 W' W'', P x (wipe σ vs) σ2 W' → Stp ε W' W'' → P x (wipe σ vs) σ2 W'')
    (hl : xs.length ≤ 100000) : EvN ε K (tLc wi g tt te vs) σ W ((xs.filter p).map f) := fun W1 g1 Q k =>
  hi W1 g1 _ fun J S W2 g2 s2 sg src D hD => by
    have DS : D ∉ ε.S := Ef.off g2.i hD
    refine ⟨fun i m H => m = xs.length - i ∧ i ≤ xs.length ∧ ∃ Wi acc, Wi.H = H ∧ Stp ε W2 Wi ∧ Wi.B D = none ∧ Wi.H D = some (.lst acc) ∧ Reps K Wi.B acc (((xs.take i).filter p).map f), ⟨xs.length, rfl, Nat.zero_le _, W2.put D (.lst []) (W2.free hD), [], rfl, ⟨md_mut (.refl _ _) (W2.free hD) hD, i_put DS g2.i _⟩, W2.free hD, upd_same, by simpa using Paired.nil⟩, ?_⟩
    rintro i m H ⟨rfl, hle, Wi, acc, rfl, gi, bD, hDi, rs⟩
    have si : S Wi := sg _ _ s2 gi
    have hacc : acc.length ≤ i := by
      rw [Reps.len rs, List.length_map]
      exact Nat.le_trans (List.length_filter_le _ _) (by rw [List.length_take]; omega)
    by_cases hlt : i < xs.length
    · refine .inr ⟨src.go i Wi si hlt, fun H => i + 1 ≤ xs.length ∧ ∃ Wi acc, Wi.H = H ∧ Stp ε W2 Wi ∧ Wi.B D = none ∧ Wi.H D = some (.lst acc) ∧ Reps K Wi.B acc (((xs.take (i + 1)).filter p).map f), fun H' h' => ⟨_, by omega, rfl, h'⟩, fun v H'' hy => ?_⟩
      obtain ⟨x, W3, rfl, g3', hx, r⟩ := src.yld i Wi v H'' si hlt hy
      have g3 : Stp ε Wi W3 := gi.rf.and g3'
      have hm : x ∈ xs := List.mem_of_getElem? hx
      have tk : xs.take (i + 1) = xs.take i ++ [x] := by rw [List.take_add_one, hx]; rfl
      have m3 := g3.md.mut DS hDi bD
      refine hg x v W3 _ _ r fun σ2 hp => ⟨hw x σ2 W3 hp, ?_⟩
      refine ht x W3 σ2 hm (((g1.trans g2).trans gi).trans g3) hp W3 g3.rf _ fun W4 g4 => ?_
      have m4 := g4.md.mut DS m3.1 m3.2
      cases hpx : p x with
      | true =>
        rw [if_pos rfl]
        refine he x W4 σ2 hm hpx ((((g1.trans g2).trans gi).trans g3).trans g4) (hP x σ2 W3 W4 hp g4) W4 g4.rf _ fun u W5 g5 r5 => ?_
        have m5 := g5.md.mut DS m4.1 m4.2
        refine ⟨acc, m5.1, Evl.sz_lt (by omega), hlt, W5.put D _ m5.2, acc ++ [u], rfl, ⟨md_mut (((gi.trans g3).trans g4).trans g5).md m5.2 hD, i_put DS g5.i _⟩, m5.2, upd_same, ?_⟩
        rw [tk, List.filter_append, List.map_append]
        simp only [List.filter_cons, hpx, if_pos, List.filter_nil, List.map_cons, List.map_nil]
        exact Reps.snoc (Reps.mono (exExt ((g3.trans g4).trans g5).md.b) rs) r5
      | false =>
        rw [if_neg Bool.false_ne_true]
        refine ⟨hlt, W4, acc, rfl, (gi.trans g3).trans g4, m4.2, m4.1, ?_⟩
        rw [tk, List.filter_append, List.map_append]
        simp only [List.filter_cons, hpx, List.filter_nil, List.map_nil, List.append_nil, if_neg Bool.false_ne_true]
        exact Reps.mono (exExt (g3.trans g4).md.b) rs
    · have e : i = xs.length := by omega
      subst e
      rw [List.take_length] at rs
      exact .inl ⟨src.stop _ Wi si (Nat.le_refl _), k D acc Wi (g2.trans gi) (by
        cases e : W1.H D with
        | none => rfl
        | some o => exact absurd hD (g2.md.d D (by rw [e]; exact fun z => by cases z))) bD hDi rs⟩
theorem et_yes : EvT ε tYes σ W true := fun W1 g1 Q k => k W1 g1.rf
theorem wipe1 {j : Nat} {v : V} : wipe ((wipe σ [j]).set j (some v)) [j] = wipe σ [j] := by simp [wipe, List.set_set]
theorem set_none_comm {σ : SS} {i j : Nat} {a : Option V} (h : i ≠ j) : (σ.set i a).set j none = (σ.set j none).set i a := List.set_comm _ _ h
theorem wipe2 {i j : Nat} {v u : V} : wipe (((wipe σ [i, j]).set i (some v)).set j (some u)) [i, j] = wipe σ [i, j] := by
  simp only [wipe]
  by_cases h : i = j
  · subst h; simp [List.set_set]
  · rw [List.set_set, set_none_comm (σ := ((σ.set j none).set i none)) h, List.set_set, List.set_comm (l := σ) _ _ (Ne.symm h), List.set_set]
    rw [List.set_comm (l := σ) _ _ h, List.set_set]
theorem filter_yes (xs : List α) : xs.filter (fun _ => true) = xs := List.filter_eq_self.mpr fun _ _ => rfl
/-- [e for x in ..], [e for x in .. if t] -/
theorem en_lcN {j : Nat} {xs : List α} {f : α → β} (hi : EvI ε K wi σ W xs) (he : ∀ x v W', x ∈ xs → Stp ε W W' → rep K W'.B v x → EvR ε K te ((wipe σ [j]).set j (some v)) W' (f x)) (hl : xs.length ≤ 100000) :
    EvN ε K (tLc wi (gName j) tYes te [j]) σ W (xs.map f) := by
  have := en_lc (ε := ε) (K := K) (wi := wi) (g := gName j) (tt := tYes) (te := te) (vs := [j]) (p := fun _ => true) (f := f) hi gt_name (fun x σ2 W' ⟨v, _, e⟩ => by rw [e]; exact wipe1) (fun _ _ _ _ _ _ => et_yes)
    (fun x W' σ2 hm _ g ⟨v, r, e⟩ => by rw [e]; exact he x v W' hm g r) (fun x σ2 W' W'' ⟨v, r, e⟩ g => ⟨v, rep_s g r, e⟩) hl
  rw [filter_yes] at this
  exact this
theorem ev_lcN {j : Nat} {xs : List α} {f : α → β} (hi : EvI ε K wi σ W xs) (he : ∀ x v W', x ∈ xs → Stp ε W W' → rep K W'.B v x → EvR ε K te ((wipe σ [j]).set j (some v)) W' (f x)) (hl : xs.length ≤ 100000) :
    EvR ε K (tLc wi (gName j) tYes te [j]) σ W (xs.map f) := (en_lcN hi he hl).toR
theorem en_lcNt {j : Nat} {xs : List α} {p : α → Bool} {f : α → β} (hi : EvI ε K wi σ W xs) (ht : ∀ x v W', x ∈ xs → Stp ε W W' → rep K W'.B v x → EvT ε tt ((wipe σ [j]).set j (some v)) W' (p x))
    (he : ∀ x v W', x ∈ xs → p x = true → Stp ε W W' → rep K W'.B v x → EvR ε K te ((wipe σ [j]).set j (some v)) W' (f x)) (hl : xs.length ≤ 100000) :
    EvN ε K (tLc wi (gName j) tt te [j]) σ W ((xs.filter p).map f) :=
  en_lc hi gt_name (fun x σ2 W' ⟨v, _, e⟩ => by rw [e]; exact wipe1) (fun x W' σ2 hm g ⟨v, r, e⟩ => by rw [e]; exact ht x v W' hm g r)
    (fun x W' σ2 hm hp g ⟨v, r, e⟩ => by rw [e]; exact he x v W' hm hp g r) (fun x σ2 W' W'' ⟨v, r, e⟩ g => ⟨v, rep_s g r, e⟩) hl
theorem ev_lcNt {j : Nat} {xs : List α} {p : α → Bool} {f : α → β} (hi : EvI ε K wi σ W xs) (ht : ∀ x v W', x ∈ xs → Stp ε W W' → rep K W'.B v x → EvT ε tt ((wipe σ [j]).set j (some v)) W' (p x))
    (he : ∀ x v W', x ∈ xs → p x = true → Stp ε W W' → rep K W'.B v x → EvR ε K te ((wipe σ [j]).set j (some v)) W' (f x)) (hl : xs.length ≤ 100000) :
    EvR ε K (tLc wi (gName j) tt te [j]) σ W ((xs.filter p).map f) := (en_lcNt hi ht he hl).toR
theorem en_lcP {i j : Nat} {xs : List (α × β)} {f : α × β → γ} (hi : EvI ε K wi σ W xs) (he : ∀ x v u W', x ∈ xs → Stp ε W W' → rep K W'.B v x.1 → rep K W'.B u x.2 → EvR ε K te (((wipe σ [i, j]).set i (some v)).set j (some u)) W' (f x)) (hl : xs.length ≤ 100000) :
    EvN ε K (tLc wi (gPair K i j) tYes te [i, j]) σ W (xs.map f) := by
  have := en_lc (ε := ε) (K := K) (wi := wi) (g := gPair K i j) (tt := tYes) (te := te) (vs := [i, j]) (p := fun _ => true) (f := f) hi gt_pair (fun x σ2 W' ⟨v, u, _, _, e⟩ => by rw [e]; exact wipe2) (fun _ _ _ _ _ _ => et_yes)
    (fun x W' σ2 hm _ g ⟨v, u, r, r', e⟩ => by rw [e]; exact he x v u W' hm g r r') (fun x σ2 W' W'' ⟨v, u, r, r', e⟩ g => ⟨v, u, rep_s g r, rep_s g r', e⟩) hl
  rw [filter_yes] at this
  exact this
theorem ev_lcP {i j : Nat} {xs : List (α × β)} {f : α × β → γ} (hi : EvI ε K wi σ W xs) (he : ∀ x v u W', x ∈ xs → Stp ε W W' → rep K W'.B v x.1 → rep K W'.B u x.2 → EvR ε K te (((wipe σ [i, j]).set i (some v)).set j (some u)) W' (f x)) (hl : xs.length ≤ 100000) :
    EvR ε K (tLc wi (gPair K i j) tYes te [i, j]) σ W (xs.map f) := (en_lcP hi he hl).toR
theorem en_lcPt {i j : Nat} {xs : List (α × β)} {p : α × β → Bool} {f : α × β → γ} (hi : EvI ε K wi σ W xs) (ht : ∀ x v u W', x ∈ xs → Stp ε W W' → rep K W'.B v x.1 → rep K W'.B u x.2 → EvT ε tt (((wipe σ [i, j]).set i (some v)).set j (some u)) W' (p x))
    (he : ∀ x v u W', x ∈ xs → p x = true → Stp ε W W' → rep K W'.B v x.1 → rep K W'.B u x.2 → EvR ε K te (((wipe σ [i, j]).set i (some v)).set j (some u)) W' (f x)) (hl : xs.length ≤ 100000) :
    EvN ε K (tLc wi (gPair K i j) tt te [i, j]) σ W ((xs.filter p).map f) :=
  en_lc hi gt_pair (fun x σ2 W' ⟨v, u, _, _, e⟩ => by rw [e]; exact wipe2) (fun x W' σ2 hm g ⟨v, u, r, r', e⟩ => by rw [e]; exact ht x v u W' hm g r r')
    (fun x W' σ2 hm hp g ⟨v, u, r, r', e⟩ => by rw [e]; exact he x v u W' hm hp g r r') (fun x σ2 W' W'' ⟨v, u, r, r', e⟩ g => ⟨v, u, rep_s g r, rep_s g r', e⟩) hl
theorem ev_lcPt {i j : Nat} {xs : List (α × β)} {p : α × β → Bool} {f : α × β → γ} (hi : EvI ε K wi σ W xs) (ht : ∀ x v u W', x ∈ xs → Stp ε W W' → rep K W'.B v x.1 → rep K W'.B u x.2 → EvT ε tt (((wipe σ [i, j]).set i (some v)).set j (some u)) W' (p x))
    (he : ∀ x v u W', x ∈ xs → p x = true → Stp ε W W' → rep K W'.B v x.1 → rep K W'.B u x.2 → EvR ε K te (((wipe σ [i, j]).set i (some v)).set j (some u)) W' (f x)) (hl : xs.length ≤ 100000) :
    EvR ε K (tLc wi (gPair K i j) tt te [i, j]) σ W ((xs.filter p).map f) := (en_lcPt hi ht he hl).toR
end

/-! ### a dict, locked -/
structure Lk (W WL : Wd) (d : Addr) (ks : List (Key × V)) : Prop where
  b : Ex W.B WL.B
  lk : ∃ od, WL.H d = some (.frz od (.dK ks))
  h : ∀ a o, a ≠ d → W.H a = some o → WL.H a = some o
section
variable {α β : Type} [Py α] [Py β] {K : Fg} {σ : SS} {W W' : Wd} {v : V} {te : TE} {t : TE} {ε : Ef}
theorem rep_lk {WL : Wd} {d : Addr} {ks : List (Key × V)} {x : α} (l : Lk W WL d ks) (h : rep K W.B v x) : rep K WL.B v x := rex l.b h
theorem ev_lock {d : Addr} {ks : List (Key × V)} {x : α} (hd : W.H d = some (.dK ks)) (h : ∀ WL, Lk W WL d ks → EvR pur K t σ WL x) : EvR pur K (tLockE t) σ W x := fun W1 g1' Q k => by
  have g1 := g1'.pure
  have hd1 := g1.h _ _ hd
  refine ⟨d, _, hd1, trivial, fun od => ?_⟩
  have sub : Ext W1.B (upd W1.H d (.frz od (.dK ks))) := fun a o e => by
    by_cases q : a = d
    · subst q
      rcases W1.sub a o e with h1 | ⟨⟨k', rfl⟩, ob, h1⟩
      · rw [hd1] at h1; cases h1
        exact .inr ⟨⟨ks, rfl⟩, od, upd_same⟩
      · rw [hd1] at h1; cases h1
    · rw [upd_ne q]; exact W1.sub a o e
  let WL : Wd := ⟨W1.B, upd W1.H d (.frz od (.dK ks)), sub⟩
  have lk : Lk W WL d ks := ⟨g1.b, ⟨od, upd_same⟩, fun a o q e => by
    show upd W1.H d _ a = some o
    rw [upd_ne q]; exact g1.h a o e⟩
  refine h WL lk WL (.start trivial) _ fun v W2 g2' r => ?_
  have g2 := g2'.pure
  have h2 : W2.H d = some (.frz od (.dK ks)) := g2.h _ _ upd_same
  refine ⟨h2, ?_⟩
  have hB : W2.B d = W1.B d := g2.m d ⟨.frz od (.dK ks), upd_same, fun _ z => by cases z⟩
  have sub3 : Ext W2.B (upd W2.H d (.dK ks)) := fun a o e => by
    by_cases q : a = d
    · subst q
      rw [hB] at e
      rcases W1.sub a o e with h1 | ⟨⟨k', rfl⟩, ob, h1⟩
      · rw [hd1] at h1; cases h1; exact .inl upd_same
      · rw [hd1] at h1; cases h1
    · rw [upd_ne q]; exact W2.sub a o e
  refine k v ⟨W2.B, upd W2.H d (.dK ks), sub3⟩ (.of (.mk g2.b (fun a o e => ?_) (fun a ha => ?_))) r
  · show upd W2.H d (.dK ks) a = some o
    by_cases q : a = d
    · subst q; rw [hd1] at e; cases e; exact upd_same
    · rw [upd_ne q]
      exact g2.h a o (by show upd W1.H d _ a = some o; rw [upd_ne q]; exact e)
  · refine g2.m a ?_
    show Nt (upd W1.H d _) a
    by_cases q : a = d
    · subst q; exact ⟨_, upd_same, fun _ z => by cases z⟩
    · obtain ⟨u, e, hu⟩ := ha
      exact ⟨u, (upd_ne q).trans e, hu⟩
section
variable {κ : Type} [PyKV κ] {d : Addr} {ks : List (Key × V)} {kv : List (κ × α)}
theorem ei_items {WL : Wd} (hv : EvR pur K te σ WL (Raw.mk (.ref d))) (lk : ∃ od, WL.H d = some (.frz od (.dK ks))) (r : KReps K WL.B ks kv) : EvI pur K (iItems te) σ WL kv := fun W1 g1 R k => hv W1 g1 _ fun v W2 g2 e => by
  obtain ⟨od, hod⟩ := lk
  have h2 := (g1.trans g2).pure.h _ _ hod
  refine ⟨d, od, ks, e, h2, k (Iti d od ks) (fun W' => W'.H d = some (.frz od (.dK ks)) ∧ Ex WL.B W'.B) W2 g2 ⟨h2, (g1.trans g2).md.b⟩ (fun W W' ⟨a, b⟩ g => ⟨g.pure.h _ _ a, b.trans g.md.b⟩) ⟨fun i W' s hi => ⟨s.1, by rw [KReps.len r]; exact hi⟩, fun i W' v H'' s hi ⟨T, k', v', h1, e1, hT, e2⟩ => ?_, fun i W' s hi => ⟨s.1, by rw [KReps.len r]; exact hi⟩⟩⟩
  obtain ⟨q, hq, hk, hr⟩ := KReps.get r h1
  refine ⟨q, W'.add T _, e2.symm, W'.grow_add hT, hq, T, _, _, e1, upd_same, ?_, rep_g (W'.grow_add hT) (rex s.2 hr)⟩
  rw [hk]
  exact PyKV.krep _ _ _
theorem ei_keys {WL : Wd} (hv : EvR pur K te σ WL (Raw.mk (.ref d))) (lk : ∃ od, WL.H d = some (.frz od (.dK ks))) (r : KReps K WL.B ks kv) : EvI pur K (iKeys te) σ WL (kv.map (·.1)) := fun W1 g1 R k => hv W1 g1 _ fun v W2 g2 e => by
  obtain ⟨od, hod⟩ := lk
  have h2 := (g1.trans g2).pure.h _ _ hod
  refine ⟨d, od, e, .inl ⟨ks, h2, k (Itk d od ks) (fun W' => W'.H d = some (.frz od (.dK ks)) ∧ Ex WL.B W'.B) W2 g2 ⟨h2, (g1.trans g2).md.b⟩ (fun W W' ⟨a, b⟩ g => ⟨g.pure.h _ _ a, b.trans g.md.b⟩) ⟨fun i W' s hi => ⟨s.1, by rw [KReps.len r]; simpa using hi⟩, fun i W' v H'' s hi ⟨e2, k', v', h1, e1⟩ => ?_, fun i W' s hi => ⟨s.1, by rw [KReps.len r]; simpa using hi⟩⟩⟩⟩
  obtain ⟨q, hq, hk, hr⟩ := KReps.get r h1
  exact ⟨q.1, W', e2.symm, .refl _ _, by simp [hq], by rw [e1, hk]; exact PyKV.krep _ _ _⟩
theorem ei_vals {WL : Wd} (hv : EvR pur K te σ WL (Raw.mk (.ref d))) (lk : ∃ od, WL.H d = some (.frz od (.dK ks))) (r : KReps K WL.B ks kv) : EvI pur K (iVals te) σ WL (kv.map (·.2)) := fun W1 g1 R k => hv W1 g1 _ fun v W2 g2 e => by
  obtain ⟨od, hod⟩ := lk
  have h2 := (g1.trans g2).pure.h _ _ hod
  refine ⟨d, od, ks, e, h2, k (Itd d od ks) (fun W' => W'.H d = some (.frz od (.dK ks)) ∧ Ex WL.B W'.B) W2 g2 ⟨h2, (g1.trans g2).md.b⟩ (fun W W' ⟨a, b⟩ g => ⟨g.pure.h _ _ a, b.trans g.md.b⟩) ⟨fun i W' s hi => ⟨s.1, by rw [KReps.len r]; simpa using hi⟩, fun i W' v H'' s hi ⟨e2, k', h1⟩ => ?_, fun i W' s hi => ⟨s.1, by rw [KReps.len r]; simpa using hi⟩⟩⟩
  obtain ⟨q, hq, hk, hr⟩ := KReps.get r h1
  exact ⟨q.2, W', e2.symm, .refl _ _, by simp [hq], rex s.2 hr⟩
end
end

/-! ### statements -/
section
variable {α β γ : Type} [Py α] [Py β] [Py γ] {K : Fg} {σ : SS} {W : Wd} {D : Ends} {te ta tb : TE} {t : TT} {tu tw tz : TS} {x : α} {y : β} {ε : Ef}
theorem s_asgP {P : V → Wd → Prop} {i : Nat} (h : EvP ε te σ W P) (s : ε.I W) (k : ∀ v W', Stp ε W W' → P v W' → D.nx (σ.set i (some v)) W'.H) : tAsg te (gName i) D σ W.H := h W (.start s) _ k
theorem q_asgP {P : V → Wd → Prop} {i : Nat} (h : EvP ε te σ W P) (s : ε.I W) (k : ∀ v W', Stp ε W W' → P v W' → tz D (σ.set i (some v)) W'.H) : tSeq (tAsg te (gName i)) tz D σ W.H := h W (.start s) _ k
theorem q_asg {i : Nat} (h : EvR ε K te σ W x) (s : ε.I W) (k : ∀ v W', Stp ε W W' → rep K W'.B v x → tz D (σ.set i (some v)) W'.H) : tSeq (tAsg te (gName i)) tz D σ W.H := h W (.start s) _ k
theorem s_asg {i : Nat} (h : EvR ε K te σ W x) (s : ε.I W) (k : ∀ v W', Stp ε W W' → rep K W'.B v x → D.nx (σ.set i (some v)) W'.H) : tAsg te (gName i) D σ W.H := h W (.start s) _ k
theorem q_asgN {xs : List α} {i : Nat} (h : EvN ε K te σ W xs) (s : ε.I W) (k : ∀ p vs W', Stp ε W W' → W.H p = none → W'.B p = none → W'.H p = some (.lst vs) → Reps K W'.B vs xs → tz D (σ.set i (some (.ref p))) W'.H) : tSeq (tAsg te (gName i)) tz D σ W.H := h W (.start s) _ k
theorem s_asgN {xs : List α} {i : Nat} (h : EvN ε K te σ W xs) (s : ε.I W) (k : ∀ p vs W', Stp ε W W' → W.H p = none → W'.B p = none → W'.H p = some (.lst vs) → Reps K W'.B vs xs → D.nx (σ.set i (some (.ref p))) W'.H) : tAsg te (gName i) D σ W.H := h W (.start s) _ k
theorem s_retN {xs : List α} (h : EvN ε K te σ W xs) (s : ε.I W) (k : ∀ p vs W', Stp ε W W' → W.H p = none → W'.B p = none → W'.H p = some (.lst vs) → Reps K W'.B vs xs → D.rt (.ref p) W'.H) : tRet te D σ W.H := h W (.start s) _ k
theorem s_ret (h : EvR ε K te σ W x) (s : ε.I W) (k : ∀ v W', Stp ε W W' → rep K W'.B v x → D.rt v W'.H) : tRet te D σ W.H := h W (.start s) _ k
theorem s_retP {P : V → Wd → Prop} (h : EvP ε te σ W P) (s : ε.I W) (k : ∀ v W', Stp ε W W' → P v W' → D.rt v W'.H) : tRet te D σ W.H := h W (.start s) _ k
theorem s_if {b : Bool} (h : EvT ε t σ W b) (s : ε.I W) (h1 : b = true → ∀ W', Stp ε W W' → tu D σ W'.H) (h2 : b = false → ∀ W', Stp ε W W' → tw D σ W'.H) : tIfS t tu tw D σ W.H := h W (.start s) _ fun W' g => by
  cases b with
  | true => rw [if_pos rfl]; exact h1 rfl W' g
  | false => rw [if_neg Bool.false_ne_true]; exact h2 rfl W' g
theorem q_if {b : Bool} (h : EvT ε t σ W b) (s : ε.I W) (h1 : b = true → ∀ W', Stp ε W W' → tu { D with nx := tz D } σ W'.H) (h2 : b = false → ∀ W', Stp ε W W' → tw { D with nx := tz D } σ W'.H) : tSeq (tIfS t tu tw) tz D σ W.H := s_if (D := { D with nx := tz D }) h s h1 h2
/-- an if without else -/
theorem q_when {b : Bool} (h : EvT ε t σ W b) (s : ε.I W) (h1 : b = true → ∀ W', Stp ε W W' → tu { D with nx := tz D } σ W'.H) (h2 : b = false → ∀ W', Stp ε W W' → tz D σ W'.H) : tSeq (tIfS t tu tNext) tz D σ W.H := s_if (D := { D with nx := tz D }) h s h1 h2
theorem s_when {b : Bool} (h : EvT ε t σ W b) (s : ε.I W) (h1 : b = true → ∀ W', Stp ε W W' → tu D σ W'.H) (h2 : b = false → ∀ W', Stp ε W W' → D.nx σ W'.H) : tIfS t tu tNext D σ W.H := s_if h s h1 h2
theorem q_drop {P : V → Wd → Prop} (h : EvP ε te σ W P) (s : ε.I W) (k : ∀ v W', Stp ε W W' → P v W' → tz D σ W'.H) : tSeq (tDrop te) tz D σ W.H := h W (.start s) _ k
theorem q_augI {i : Nat} {f : Int → Int → Int} {a b : Int} (hx : σ[i]? = some (some (.int a))) (h : EvR ε K te σ W b) (s : ε.I W) (k : ∀ W', Stp ε W W' → tz D (σ.set i (some (.int (f a b)))) W'.H) : tSeq (tAug i te (ipI f)) tz D σ W.H :=
  ⟨_, hx, h W (.start s) _ fun u W' g ru => ⟨a, b, rfl, ru, k W' g⟩⟩
theorem s_augI {i : Nat} {f : Int → Int → Int} {a b : Int} (hx : σ[i]? = some (some (.int a))) (h : EvR ε K te σ W b) (s : ε.I W) (k : ∀ W', Stp ε W W' → D.nx (σ.set i (some (.int (f a b)))) W'.H) : tAug i te (ipI f) D σ W.H :=
  ⟨_, hx, h W (.start s) _ fun u W' g ru => ⟨a, b, rfl, ru, k W' g⟩⟩
/-- a, b = x, y -/
theorem q_par {i j : Nat} {P R : V → Wd → Prop} (ha : EvP ε ta σ W P) (hb : EvP ε tb σ W R) (s : ε.I W) (mono : ∀ v W W', Stp ε W W' → P v W → P v W')
    (k : ∀ v u W', Stp ε W W' → P v W' → R u W' → tz D ((σ.set i (some v)).set j (some u)) W'.H) : tSeq (tPar i j (tCons ta (tCons tb tNil))) tz D σ W.H :=
  ha W (.start s) _ fun v W1 g1 p => hb W1 g1 _ fun u W2 g2 r => ⟨v, u, rfl, k v u W2 (g1.trans g2) (mono v W1 W2 g2 p) r⟩
/-- the turns of a for over what J walks: Pv by the turn, the slots, the world -/
theorem for_src {g : TG} {xs : List α} {J : It} {W2 : Wd} (src : Src K J (On W2) xs) (Pv : Nat → SS → Wd → Prop) (h0 : Pv 0 σ W2) (hon : ∀ i σ' W', Pv i σ' W' → On W2 W')
    (hs : ∀ i x v σ' W' W'', i < xs.length → xs[i]? = some x → Pv i σ' W' → Grow W' W'' → rep K W''.B v x → g v σ' W''.H fun σ2 H2 => tu { D with nx := fun σ H => ∃ W, W.H = H ∧ Pv (i + 1) σ W, ct := fun σ H => ∃ W, W.H = H ∧ Pv (i + 1) σ W, bk := D.nx } σ2 H2)
    (hd : ∀ σ' W', Pv xs.length σ' W' → D.nx σ' W'.H) :
    ∃ W : Nat → Nat → SS → Hp → Prop, (∃ m, W 0 m σ W2.H) ∧ ∀ i m σ H, W i m σ H →
      (J.stop i H ∧ D.nx σ H) ∨ (J.go i H ∧ ∃ N : SS → Hp → Prop, (∀ σ' H', N σ' H' → ∃ m', m' < m ∧ W (i + 1) m' σ' H') ∧ ∀ x H', J.yld i H x H' → g x σ H' fun σ2 H2 => tu { D with nx := N, ct := N, bk := D.nx } σ2 H2) := by
  refine ⟨fun i m σ H => m = xs.length - i ∧ i ≤ xs.length ∧ ∃ W, W.H = H ∧ Pv i σ W, ⟨xs.length, rfl, Nat.zero_le _, W2, rfl, h0⟩, ?_⟩
  rintro i m σ' H ⟨rfl, hle, W', rfl, p⟩
  by_cases hlt : i < xs.length
  · refine .inr ⟨src.go i W' (hon i σ' W' p) hlt, fun σ H => ∃ W, W.H = H ∧ Pv (i + 1) σ W, fun σ'' H'' q => ⟨_, by omega, rfl, hlt, q⟩, fun v H'' hy => ?_⟩
    obtain ⟨x, W'', rfl, gg, hx, r⟩ := src.yld i W' v H'' (hon i σ' W' p) hlt hy
    exact hs i x v σ' W' W'' hlt hx p gg r
  · have e : i = xs.length := by omega
    subst e
    exact .inl ⟨src.stop _ W' (hon _ _ _ p) (Nat.le_refl _), hd σ' W' p⟩
/-- for target in .. -/
theorem s_for {wi : TI} {g : TG} {xs : List α} (hi : EvJ ε K wi σ W xs) (s : ε.I W)
    (k : ∀ W2, Stp ε W W2 → ∃ Pv : Nat → SS → Wd → Prop, Pv 0 σ W2 ∧ (∀ i σ' W', Pv i σ' W' → On W2 W') ∧
      (∀ i x v σ' W' W'', i < xs.length → xs[i]? = some x → Pv i σ' W' → Grow W' W'' → rep K W''.B v x → g v σ' W''.H fun σ2 H2 => tu { D with nx := fun σ H => ∃ W, W.H = H ∧ Pv (i + 1) σ W, ct := fun σ H => ∃ W, W.H = H ∧ Pv (i + 1) σ W, bk := D.nx } σ2 H2) ∧
      (∀ σ' W', Pv xs.length σ' W' → D.nx σ' W'.H)) : tFor wi g tu D σ W.H := hi W (.start s) _ fun J W2 g2 src => by
  obtain ⟨Pv, h0, hon, hs, hd⟩ := k W2 g2
  exact for_src src Pv h0 hon hs hd
theorem q_for {wi : TI} {g : TG} {xs : List α} (hi : EvJ ε K wi σ W xs) (s : ε.I W)
    (k : ∀ W2, Stp ε W W2 → ∃ Pv : Nat → SS → Wd → Prop, Pv 0 σ W2 ∧ (∀ i σ' W', Pv i σ' W' → On W2 W') ∧
      (∀ i x v σ' W' W'', i < xs.length → xs[i]? = some x → Pv i σ' W' → Grow W' W'' → rep K W''.B v x → g v σ' W''.H fun σ2 H2 => tu { D with nx := fun σ H => ∃ W, W.H = H ∧ Pv (i + 1) σ W, ct := fun σ H => ∃ W, W.H = H ∧ Pv (i + 1) σ W, bk := tz D } σ2 H2) ∧
      (∀ σ' W', Pv xs.length σ' W' → tz D σ' W'.H)) : tSeq (tFor wi g tu) tz D σ W.H := s_for (D := { D with nx := tz D }) hi s k
/-- for k in range(a drawn number) -/
theorem for_rng {j : Nat} {n : Int} {W2 : Wd} (Pv : Nat → SS → Wd → Prop) (h0 : Pv 0 σ W2) (hon : ∀ i σ' W', Pv i σ' W' → On W2 W')
    (hs : ∀ (i : Nat) σ' W', (i : Int) < n → Pv i σ' W' → tu { D with nx := fun σ H => ∃ W, W.H = H ∧ Pv (i + 1) σ W, ct := fun σ H => ∃ W, W.H = H ∧ Pv (i + 1) σ W, bk := D.nx } (σ'.set j (some (.int (i : Int)))) W'.H)
    (hd : ∀ σ' W', Pv n.toNat σ' W' → D.nx σ' W'.H) :
    ∃ W : Nat → Nat → SS → Hp → Prop, (∃ m, W 0 m σ W2.H) ∧ ∀ i m σ H, W i m σ H →
      ((Itr 0 n.toNat).stop i H ∧ D.nx σ H) ∨ ((Itr 0 n.toNat).go i H ∧ ∃ N : SS → Hp → Prop, (∀ σ' H', N σ' H' → ∃ m', m' < m ∧ W (i + 1) m' σ' H') ∧ ∀ x H', (Itr 0 n.toNat).yld i H x H' → gName j x σ H' fun σ2 H2 => tu { D with nx := N, ct := N, bk := D.nx } σ2 H2) :=
  L2.for_range (fun i σ H => ∃ W, W.H = H ∧ Pv i σ W) ⟨W2, rfl, h0⟩ (fun i σ H hi ⟨W', e, p⟩ => by
    subst e
    have := hs i σ W' (by omega) p
    show tu _ (σ.set j (some (.int (0 + (i : Nat))))) W'.H
    rw [Int.zero_add]; exact this) (fun σ H ⟨W', e, p⟩ => by subst e; exact hd σ W' p)
/-- while -/
theorem s_while (Wm : Nat → SS → Wd → Prop) (m0 : Nat) (h0 : Wm m0 σ W)
    (hs : ∀ m σ' W', Wm m σ' W' → ε.I W' ∧ ∃ b, EvT ε t σ' W' b ∧ (b = true → ∀ W'', Stp ε W' W'' → tu { D with nx := fun σ H => ∃ m' W, m' < m ∧ W.H = H ∧ Wm m' σ W, ct := fun σ H => ∃ m' W, m' < m ∧ W.H = H ∧ Wm m' σ W, bk := D.nx } σ' W''.H) ∧ (b = false → ∀ W'', Stp ε W' W'' → D.nx σ' W''.H)) : tWhile t tu D σ W.H := by
  refine ⟨fun m σ H => ∃ W, W.H = H ∧ Wm m σ W, ⟨m0, W, rfl, h0⟩, ?_⟩
  rintro m σ' H ⟨W', rfl, w⟩
  obtain ⟨hI, b, ht, h1, h2⟩ := hs m σ' W' w
  refine ht W' (.start hI) _ fun W'' g => ?_
  cases b with
  | true =>
    rw [if_pos rfl]
    exact ⟨fun σ H => ∃ m' W, m' < m ∧ W.H = H ∧ Wm m' σ W, fun σ2 H2 ⟨m', W, hm, e, q⟩ => ⟨m', hm, W, e, q⟩, h1 rfl W'' g⟩
  | false =>
    rw [if_neg Bool.false_ne_true]
    exact h2 rfl W'' g

/-! ### calls of defs -/
theorem ev_callP1 {P R : V → Wd → Prop} {sp : Sp} {E : XK} (ha : EvP ε ta σ W P) (hs : ∀ v W1, Stp ε W W1 → P v W1 → ∀ Q : VK, (∀ u W2, Stp ε W1 W2 → R u W2 → Q u W2.H) → sp [v] W1.H Q E) : EvP ε (tCall sp [] E (tCons ta tNil)) σ W R := fun W1 g1 Q k =>
  ha W1 g1 _ fun v W2 g2 p => hs v W2 (g1.trans g2) p Q fun u W3 g3 r => k u W3 (g2.trans g3) r
theorem ev_callP2 {P P2 R : V → Wd → Prop} {sp : Sp} {E : XK} (ha : EvP ε ta σ W P) (hb : EvP ε tb σ W P2) (mono : ∀ v W W', Stp ε W W' → P v W → P v W')
    (hs : ∀ v v2 W1, Stp ε W W1 → P v W1 → P2 v2 W1 → ∀ Q : VK, (∀ u W2, Stp ε W1 W2 → R u W2 → Q u W2.H) → sp [v, v2] W1.H Q E) : EvP ε (tCall sp [] E (tCons ta (tCons tb tNil))) σ W R := fun W1 g1 Q k =>
  ha W1 g1 _ fun v W2 g2 p => hb W2 (g1.trans g2) _ fun v2 W3 g3 p2 => hs v v2 W3 ((g1.trans g2).trans g3) (mono v W2 W3 g3 p) p2 Q fun u W4 g4 r => k u W4 ((g2.trans g3).trans g4) r
end
end B
/-! B: short names of readings, more derivations -/
namespace B
open PySem L2
open Evl (Ex)
abbrev oAdd : R2 := rI0 fun i j => .int (i + j)
abbrev oSub : R2 := rI0 fun i j => .int (i - j)
abbrev oMul : R2 := rI CMul fun i j => .int (i * j)
abbrev oDiv : R2 := rI CDiv fun i j => .int (i / j)
abbrev oMod : R2 := rI (fun _ j => 0 < j) fun i j => .int (i % j)
abbrev oPow : R2 := rI CPow fun i j => .int (i ^ j.toNat)
abbrev oLt : R2 := rI0 fun i j => .bl (decide (i < j))
abbrev oLe : R2 := rI0 fun i j => .bl (decide (i ≤ j))
abbrev oGt : R2 := rI0 fun i j => .bl (decide (j < i))
abbrev oGe : R2 := rI0 fun i j => .bl (decide (j ≤ i))
abbrev oNeg : V → Hp → VK → Prop := rU fun i => .int (-i)
abbrev oIsN : R2 := fun x y H Q => y = .non ∧ Q (.bl (decide (x = .non))) H
abbrev oNotN : R2 := fun x y H Q => y = .non ∧ Q (.bl (!decide (x = .non))) H
abbrev oCatS : R2 := fun x y H Q => ∃ i j, x = .str i ∧ y = .str j ∧ i.length + j.length ≤ sizeLine ∧ Q (.str (i ++ j)) H
abbrev oLtS : R2 := fun x y H Q => ∃ i j, x = .str i ∧ y = .str j ∧ Q (.bl (decide (i.cps.toList < j.cps.toList))) H
abbrev oInS : R2 := fun x y H Q => ∃ i j, x = .str i ∧ y = .str j ∧ Q (.bl (!(Builtin.Str.occurrences j i 0 j.length 1).isEmpty)) H
abbrev tTru (K : Fg) (ta : TE) : TT := fun σ H Q => ta σ H fun x H' => ∃ k, TruV K x H' k ∧ Q k H'
abbrev rInt1 : List V → Hp → VK → Prop := fun xs H Q => (∃ i, xs = [.int i] ∧ Q (.int i) H) ∨ ∃ k, xs = [.bl k] ∧ Q (.int (if k then 1 else 0)) H
abbrev rTupleO (K : Fg) : List V → Hp → VK → Prop := fun xs H Q => ∃ p ys, xs = [.ref p] ∧ ((SqL K H p ys ∧ ∀ l, H l = none → Q (.ref l) (upd H l (.tup ys))) ∨ (SqT K H p ys ∧ Q (.ref p) H))
abbrev rLenD : List V → Hp → VK → Prop := fun xs H Q => ∃ a kvs, xs = [V.ref a] ∧ H a = some (.dK kvs) ∧ Q (.int kvs.length) H
theorem cr_tupleO {X : Cx} : CallR X (.type "tuple") (rTupleO X.K) := call_tuple_of
theorem cr_lenD {X : Cx} : CallR X (.builtin "len") rLenD := call_lenD

/-! ### name = {k: v for ..} -/
section
variable {X : Cx}
theorem ps_setDc {i : Nat} {y : Str} {py : Pos} {kx vx tg iter : Expr} {ifs : List Expr} {scope : Scope} {own : List (Str × Nat)} {pos spos : Pos} {wi : TI} {g : TG} {tt : TT} {tk tv : TE} (hc : X.calm = true) (hN : X.N.Nodup) (hy : X.N[i]? = some y) (hyl : X.env.scope.names.lookup y = some .local)
    (hsw : swapsWith (.DictComp kx vx [⟨tg, iter, ifs, 0⟩] scope pos) (some (.Name y py)) spos.line X.env = pure true) (hi : PI X tg iter wi) (ok : BlkOk X.N X.env.scope scope own)
    (hg : ∀ (s : Shared) (H : Hp) (C : Addr) (cl : List (Str × Addr)) (fp : List Addr), PG (X.blk s H scope (compEnvC scope cl C X.env) fp) tg g) (ht : ∀ (s : Shared) (H : Hp) (C : Addr) (cl : List (Str × Addr)) (fp : List Addr), PTs (X.blk s H scope (compEnvC scope cl C X.env) fp) ifs tt)
    (hk : ∀ (s : Shared) (H : Hp) (C : Addr) (cl : List (Str × Addr)) (fp : List Addr), PE (X.blk s H scope (compEnvC scope cl C X.env) fp) kx tk)
    (he : ∀ (s : Shared) (H : Hp) (C : Addr) (cl : List (Str × Addr)) (fp : List Addr), PE (X.blk s H scope (compEnvC scope cl C X.env) fp) vx tv) (hs : ∀ x, foldedSetIterable iter X.env x = pure x := by intro _; rfl) :
    PS X (.Assign [.Name y py] (.DictComp kx vx [⟨tg, iter, ifs, 0⟩] scope pos) spos) (tAsg (tDc wi g tt tk tv (own.map (·.2))) (gName i)) := by
  refine ⟨fun pins s σ H D I h => ?_⟩
  rw [exec_Assign_Name_used _ _ _ _ hsw]
  refine wpAny_bind (wpAny_standAt (wpAny_bind ?_))
  show wpAny _ X.A (do let _ ← comprehension (.DictComp kx vx [⟨tg, iter, ifs, 0⟩] scope pos) scope X.env (firstIterPos [⟨tg, iter, ifs, 0⟩] pos) newDict false (eval iter X.env) (some (assign (.Name y py) X.env))) _ _ s
  have h : tDc wi g tt tk tv (own.map (·.2)) σ H (fun x H1 => gName i x σ H1 D.nx) := h
  refine wpAny_bind (thn (dc_core (Qf := fun _ s' => SP X pins D .next s') hc hN I hi ok hg ht hk he hs h fun L C s' m H' I' q hn f => ?_) fun _ s' hq => wpAny_pure (wpAny_pure hq))
  show wpAny _ _ (assign (.Name y py) X.env (.ref L)) _ _ _
  refine wpAny_assign_Name (store_ok2 (v := V.ref L) I' hN hy (.inl hyl) rfl (fun s2 I2 ⟨a, sb, ha⟩ => ?_) (.inr hyl))
  obtain ⟨f0, f1, f2, f3, f4, f5⟩ := f
  have haC : C ≠ a := by
    rcases ha with z | z
    · rw [z]; exact f1
    · exact fun e => f4 y a z e.symm
  refine ⟨m, hn.sameBut sb haC, fun h3 sb3 => ?_⟩
  exact ⟨_, H', I2.turned (t' := s2.toks) (fun b o hb e => (sb3.2 b hb).trans e) f0 f1 f3 f4 f5, q⟩
theorem sw_trueD {kx vx : Expr} {gs : List Comprehension} {scope : Scope} {pos py : Pos} {y : Str} {l : Nat} {env : Env} (hk : env.scope.kind = .function) (hy : env.scope.names.lookup y = some .local) (hl : (py.line == pos.line) = true)
    (ha : (scope.names.any fun (n, k) => n == y && (k == .local || k == .cell)) = false) : swapsWith (.DictComp kx vx gs scope pos) (some (.Name y py)) l env = pure true := by
  have ky : env.kindOf y = some .local := hy
  have hb : env.blockKind = .function := by unfold Env.blockKind; rw [hk]; rfl
  unfold swapsWith
  simp only [hb, ky, ha, Expr.pos, hl]
  rfl
end

/-! ### f(k = v, ..) -/
def perm {ζ : Type} (l : List Nat) (ws : List ζ) : List ζ := l.filterMap fun i => ws[i]?
theorem perm_rel (l : List Nat) {vs : List V} {us : List Value} (r : Vals vs us) : Vals (perm l vs) (perm l us) := by
  induction l with
  | nil => exact .nil
  | cons i l ih =>
    unfold perm
    rw [List.filterMap_cons, List.filterMap_cons]
    cases e : vs[i]? with
    | none =>
      rw [r.none_of e]
      exact ih
    | some v =>
      obtain ⟨u, h1, h2⟩ := r.get e
      rw [h1]
      exact .cons h2 ih
def KwB (K : Fg) (fd : FuncData) (ps ks : List Str) (l : List Nat) : Prop := ∀ (s : Shared) (ws : List Value), K.In s.heap → ws.length = ks.length → BindsTo s fd ⟨[], ks.zip ws⟩ (ps.zip (perm l ws))
theorem kwb_mk {K : Fg} {x qual : Str} {st : Stmt} {f : Addr} {fd : FuncData} {ps ks : List Str} {l : List Nat} (F : Fun K x qual st f fd)
    (h : ∀ (kV doc pm : Value) (an : Option Addr) (cdv ct : Value) (us : List Value), us.length = ks.length → bindArgs (PySem.W.fnOf x qual (defArgs st) (defBody st) (defScope st) .none kV doc pm an cdv ct) ⟨[], ks.zip us⟩ = pure (ps.zip (perm l us))) : KwB K fd ps ks l := by
  obtain ⟨oc, od, kV, doc, pm, an, cdv, ct, osl, rfl, lk, hcd⟩ := F.ex
  exact fun s ws _ hl => .of_eq (h kV doc pm an cdv ct ws hl)
def tCallKw (sp : Sp) (l : List Nat) (m : Nat) (E : XK) (tk : TA) : TE := fun σ H Q => tk σ H fun zs H2 => zs.length = m ∧ sp (perm l zs) H2 Q E
theorem pe_callKw {X : Cx} {CX : CXT} {k : Nat} {f : Addr} {fd : FuncData} {ps ks : List Str} {l : List Nat} {sp : Sp} {E : XK} {x : Str} {p pos : Pos} {kws : List Keyword} {tk : TA} {m : Nat}
    (F : FnOk X.prog X.w X.K X.mg X.base CX k f fd ps sp) (hr : Room k X.A) (hg : Gl X x) (hm : X.mg x = some (.ref f)) (hk : PySem.W.keepIn X.K (.ref f) = true) (hb : KwB X.K fd ps ks l) (hx : Passes CX X E)
    (hkw : PK X kws tk) (hall : (backToKw pos (keywordEach kws X.env)).all (·.1.isSome) = true := by rfl) (hks : (backToKw pos (keywordEach kws X.env)).filterMap (·.1) = ks := by rfl)
    (hm' : m = ks.length := by rfl) (hdb : (x == ("__debug__" : Str)) = false := by decide)
    (hpl : ((backTo pos (starEach [] X.env)).any (·.1) || (backToKw pos (keywordEach kws X.env)).any (·.1.isNone)) = false := by rfl) :
    PE X (.Call (.Name x p) [] kws pos) (tCallKw sp l m E tk) := by
  subst hm'
  refine ⟨fun pins s σ H Q I h => ?_⟩
  refine wpAny_Call_Name_kw (ld_glob I hg hm ?_ hdb)
  refine PySem.W.callWith_KW0 (h₀ := X.base) I.ok.mod.kin hk hall (thn (hkw.run pos pins s σ H _ I h) fun ws s2 ⟨zs, H2, I2, rz, hl, q2⟩ => ⟨I2.kIn, ?_⟩) hpl
  rw [hks]
  have r2 := perm_rel l rz
  refine wpAny_call (codeAny_mono (F.run X.A X.stack s2 H2 ⟨[], ks.zip ws⟩ (perm l ws) (perm l zs) Q E hr I2.env0 (hb s2 ws I2.kIn (by rw [← rz.length]; exact hl)) r2 q2) fun r s' hq => ?_)
  cases r with
  | error e => exact hx pins σ H2 s2 e s' I2 hq
  | ok fl =>
    cases fl with
    | ret u => exact I2.after hq
    | next => exact False.elim hq
    | brk => exact False.elim hq
    | cont => exact False.elim hq
end B
/-! B: rules that the kit has not: zip of a text and a tuple, sum of a tuple, tuple * 1, d.values() as a value -/
namespace B
open PySem L2 PySem.Spec PyProof.Rows
/-! ### zip(text, tuple) -/
def ItzS (K : Fg) (x : Str) (b : Addr) (n : Nat) : It :=
  ⟨fun i H => i < x.cps.size ∧ i < n ∧ ∃ ys : List V, SqT K H b ys ∧ ys.length = n,
    fun i H v H' => ∃ T c y, v = .ref T ∧ H T = none ∧ H' = upd H T (.tup [.str ⟨#[c]⟩, y]) ∧ x.cps[i]? = some c ∧ ∀ ys, SqT K H b ys → ys[i]? = some y,
    fun i H => (x.cps.size ≤ i ∨ n ≤ i) ∧ ∃ ys : List V, SqT K H b ys ∧ ys.length = n⟩
def ZsTn (x : Str) (t : Tok) (b z TI TO i1 i2 : Addr) (n i : Nat) (h : Heap) : Prop := IsZip h z TI TO .none ∧ IsPair h TI (.ref i1) (.ref i2) ∧ (∃ x y, IsPair h TO x y) ∧ h.IsStrIter i1 (strIterType x) x t i ∧ h.IsTupleIter i2 b i ∧ i ≤ x.cps.size ∧ i ≤ n
theorem ti_ne {h : Heap} {i2 b : Addr} {i : Nat} {its : Array Value} (h2 : h.IsTupleIter i2 b i) (p : IsTup h b its) : b ≠ i2 := fun e => by
  obtain ⟨o, ho, hcls, hdat⟩ := id h2
  obtain ⟨o', ho', hc', _⟩ := p
  rw [e, ho] at ho'
  cases ho'
  rw [hcls] at hc'
  have := Value.type.inj hc'
  revert this
  decide
theorem turn_zipS {P : Program} {w : World} {K : Fg} {elts : List Expr} {kk : Nat} {tpos : Pos} {x : Str} {t : Tok} {b z TI TO i1 i2 : Addr} {n : Nat} (D : ZipSep2 z TI TO i1 i2 [i1] [i2, b]) :
    Turn P w K (.Tuple elts kk tpos) (ItzS K x b n) [z, TI, TO, i1, i2] z (ZsTn x t b z TI TO i1 i2 n) where
  mem := by simp
  obj := fun i h st c hc => by
    obtain ⟨hz, hTI, ⟨x, y, hTO⟩, ⟨o1, e1, _, d1⟩, ⟨o2, e2, _, d2⟩, _, _⟩ := st
    simp only [List.mem_cons, List.not_mem_nil, or_false] at hc
    rcases hc with q | q | q | q | q <;> rw [q]
    · exact ⟨_, hz, fun v q => nomatch q⟩
    · exact ⟨_, hTI, fun v q => nomatch q⟩
    · exact ⟨_, hTO, fun v q => nomatch q⟩
    · exact ⟨o1, e1, fun v q => by rw [d1] at q; cases q⟩
    · exact ⟨o2, e2, fun v q => by rw [d2] at q; cases q⟩
  keep := fun i h h' st k => by
    obtain ⟨hz, hTI, ⟨x, y, hTO⟩, ⟨o1, e1, r1⟩, h2, l1, l2⟩ := st
    exact ⟨k z (by simp) _ hz, k TI (by simp) _ hTI, ⟨x, y, k TO (by simp) _ hTO⟩, ⟨o1, k i1 (by simp) _ e1, r1⟩, h2.at fun o q => k i2 (by simp) o q, l1, l2⟩
  item := by
    intro X hP hw hK hc i pins s σ H E I hf st hg
    subst hP hw hK
    obtain ⟨hz, hTI, ⟨x0, y0, hTO⟩, h1, h2, l1, l2⟩ := st
    obtain ⟨g1, g2, ys, hqy, hn⟩ := hg
    obtain ⟨its, rv, p, _⟩ := I.tuple hqy
    have hl : its.length = n := by rw [← rv.length]; exact hn
    have hd : X.A.in1.handled = none := I.ok.hd hc
    refine wpAny_pyNext_zipD2_item D (Draws.text hd i1 x t) (Draws.tuple hd i2 b (ti_ne h2 p) its.toArray) hz hTI hTO h1 ⟨h2, p⟩ g1 (by simpa [hl] using g2) fun u1 u2 h' tk y1 y2 b1 b2 d1 d2 b5 b6 hk => ?_
    have hzl : z < s.heap.objs.size := Heap.lt_size hz
    obtain ⟨c, tc, hcx, rfl⟩ := y1
    obtain ⟨y, hy, ry⟩ : ∃ y, ys[i]? = some y ∧ RelV y u2 := by
      have e2 : its[i]? = some u2 := by simpa using y2
      have hy : ys[i]? = some (ys[i]'(by omega)) := List.getElem?_eq_getElem (by omega)
      obtain ⟨u, e3, r⟩ := rv.get hy
      rw [e2] at e3
      cases e3
      exact ⟨_, hy, r⟩
    refine ⟨_, rfl, wpAny_letOwnedTupleGo_zip (s := { s with heap := h', toks := tk }) b1 fun h'' z'' sb => ?_⟩
    have hT2 : h''.get? s.heap.objs.size = some { cls := .type "tuple", data := .seq #[.str ⟨#[c]⟩ tc, u2] } := (sb.2 _ (Nat.ne_of_gt hzl)).trans b5
    have new : ObjOk X.prog X.w (upd H s.heap.objs.size (.tup [.str ⟨#[c]⟩, y])) h'' s.heap.objs.size (.tup [.str ⟨#[c]⟩, y]) :=
      ⟨by show 2 ≤ sizeLine; decide, [.str ⟨#[c]⟩ tc, u2], .cons ⟨tc, rfl⟩ (.cons ry .nil), ⟨_, hT2, rfl, _, rfl⟩⟩
    have I1 : Inv X pins σ (upd H s.heap.objs.size (.tup [.str ⟨#[c]⟩, y])) { s with heap := h'', toks := tk } :=
      I.turnedNew (t' := tk) (ch := [z, TI, TO, i1, i2]) (fun c o hb q => (sb.2 c (fun q' => hb (by simp [q']))).trans (hk c o (fun q' => hb (by simp [q'])) (fun q' => hb (by simp [q'])) (fun q' => hb (by simp [q'])) (fun q' => hb (by simp [q'])) q)) hf (Nat.le_refl _) new
    refine ⟨.ref s.heap.objs.size, _, I1, rfl, ⟨_, c, y, rfl, I.hok.fresh (Nat.le_refl _), rfl, hcx, fun l hl => by rw [I.tuple_inj hl hqy]; exact hy⟩, ⟨z'', ?_, ⟨Value.str ⟨#[c]⟩ tc, u2, ?_⟩, ?_, ?_, by omega, by omega⟩, fun c hcm => ?_⟩
    · exact (sb.2 _ D.TIz).trans (hk _ _ D.TIz D.TITO D.TIi1 D.TIi2 hTI)
    · exact (sb.2 _ D.TOz).trans b2
    · obtain ⟨o, ho, r⟩ := d1
      exact ⟨o, (sb.2 _ D.zi1.symm).trans ho, r⟩
    · exact d2.1.at fun o q => (sb.2 _ D.zi2.symm).trans q
    · have hlt : c < s.heap.objs.size := by
        simp only [List.mem_cons, List.not_mem_nil, or_false] at hcm
        rcases hcm with q | q | q | q | q <;> rw [q]
        · exact hzl
        · exact Heap.lt_size hTI
        · exact Heap.lt_size hTO
        · obtain ⟨_, e1, _⟩ := h1; exact Heap.lt_size e1
        · obtain ⟨_, e2, _⟩ := h2; exact Heap.lt_size e2
      rw [upd_ne (Nat.ne_of_lt hlt)]
      exact (hf c hcm).1
  done := by
    intro X hP hw hK hc i pins s σ H E I hf st hg
    subst hP hw hK
    obtain ⟨hz, hTI, ⟨x0, y0, hTO⟩, h1, h2, l1, l2⟩ := st
    obtain ⟨hend, ys, hqy, hn⟩ := hg
    obtain ⟨its, rv, p, _⟩ := I.tuple hqy
    have hl : its.length = n := by rw [← rv.length]; exact hn
    have hd : X.A.in1.handled = none := I.ok.hd hc
    have hne : b ≠ i2 := ti_ne h2 p
    have hs : its.toArray.size = n := by simpa using hl
    exact wpAny_pyNext_zipD2_end D (Draws.text hd i1 x t) (Draws.tuple hd i2 b hne its.toArray) hz hTI hTO h1 ⟨h2, p⟩ l1 (by omega) (by omega) fun h' tk hk => ⟨rfl, I.turnedL (t' := tk) (ch := [z, TI, TO, i1, i2]) (fun c o hb q =>
      hk c o (fun q' => hb (by simp [q'])) (fun q' => hb (by simp [q'])) (fun q' => hb (by simp [q'])) (fun q' => hb (by simp [q'])) q) hf⟩
  self := fun A i s Q E st h => wpAny_pyIter_zip st.1 h
theorem zsep {n b : Nat} (h : b < n) : ZipSep2 (n + 4) (n + 2) (n + 3) n (n + 1) [n] [n + 1, b] where
  TIz := Nat.ne_of_lt (by omega)
  TOz := Nat.ne_of_lt (by omega)
  TITO := Nat.ne_of_lt (by omega)
  TIi1 := Nat.ne_of_gt (by omega)
  mem1 := List.mem_cons_self
  zf1 := fun q => absurd (List.mem_singleton.mp q) (Nat.ne_of_gt (by omega))
  Tf1 := fun q => absurd (List.mem_singleton.mp q) (Nat.ne_of_gt (by omega))
  TIi2 := Nat.ne_of_gt (by omega)
  mem2 := List.mem_cons_self
  zf2 := fun q => by rcases List.mem_cons.mp q with e | q; exact absurd e (Nat.ne_of_gt (by omega)); exact absurd (List.mem_singleton.mp q) (Nat.ne_of_gt (by omega))
  Tf2 := fun q => by rcases List.mem_cons.mp q with e | q; exact absurd e (Nat.ne_of_gt (by omega)); exact absurd (List.mem_singleton.mp q) (Nat.ne_of_gt (by omega))
  sep1_2 := fun q => by rcases List.mem_cons.mp q with e | q; exact absurd e (Nat.ne_of_lt (by omega)); exact absurd (List.mem_singleton.mp q) (Nat.ne_of_gt (by omega))
  sep2_1 := fun q => absurd (List.mem_singleton.mp q) (Nat.ne_of_gt (by omega))
def iZipS (K : Fg) (ta : TA) : TI := fun σ H R => ta σ H fun vs H1 => ∃ x b ys, vs = [.str x, .ref b] ∧ SqT K H1 b ys ∧ R (ItzS K x b ys.length) H1
theorem pi_zipS {X : Cx} {e e2 : Expr} {ta : TA} {p pos tpos : Pos} {elts : List Expr} {kk : Nat} (hg : Gl X "zip") (hm : X.mg "zip" = none) (ha : PA X [e, e2] ta)
    (hs : starEach [e, e2] X.env = (false, eval e X.env) :: starEach [e2] X.env := by rfl) (hpl : (backTo pos (starEach [e2] X.env)).any (·.1) = false := by rfl) :
    PI X (.Tuple elts kk tpos) (.Call (.Name "zip" p) [e, e2] [] pos) (iZipS X.K ta) := by
  refine ⟨fun pins s σ H R I h => ?_⟩
  refine Call_ (ld_blt I hg hm PyProof.Rows.boot_zip (PyProof.Rows.callWith_type1 (thn (ha.run pos pins s σ H _ I h) fun us s1 ⟨vs, H1, I1, r1, q1⟩ => ?_) hs hpl))
  obtain ⟨x, b, ys, ex, hqy, q⟩ := q1
  subst ex
  cases r1 with
  | cons r rr =>
    cases rr with
    | cons r' rr =>
      cases rr
      obtain ⟨t, rfl⟩ := r
      cases r'
      obtain ⟨its, rv, p, _⟩ := I1.tuple hqy
      have lb : b < s1.heap.objs.size := by obtain ⟨o, ho, _⟩ := id p; exact Heap.lt_size ho
      refine zip_begins2 (begins_text x t) (begins_tuple b its.toArray) trivial p fun h' hz hTI hTO g1 g2 hsz hk => wpAny_pyIter_zip hz ?_
      have I2 : Inv X pins σ H1 { s1 with heap := h' } := I1.kept (t' := s1.toks) hk
      have fresh5 : ∀ c, c ∈ [s1.heap.objs.size + 4, s1.heap.objs.size + 2, s1.heap.objs.size + 3, s1.heap.objs.size, s1.heap.objs.size + 1] → FpOk X pins H1 c := fun c hcm => by
        have hle : s1.heap.objs.size ≤ c := by
          simp only [List.mem_cons, List.not_mem_nil, or_false] at hcm
          omega
        exact I1.fpOk hle (I1.hok.fresh hle)
      exact ⟨s1.heap.objs.size + 4, [s1.heap.objs.size + 4, s1.heap.objs.size + 2, s1.heap.objs.size + 3, s1.heap.objs.size, s1.heap.objs.size + 1], _, _, H1, rfl, I2, turn_zipS (t := t) (i1 := s1.heap.objs.size) (i2 := s1.heap.objs.size + 1) (TI := s1.heap.objs.size + 2) (TO := s1.heap.objs.size + 3) (zsep lb), ⟨hz, hTI, ⟨_, _, hTO⟩, ⟨_, g1, rfl, rfl⟩, ⟨_, g2, rfl, rfl⟩, Nat.zero_le _, Nat.zero_le _⟩, fresh5, q⟩

/-! ### d.values() as a value -/
def viewHO (v a : Addr) : HO := .ext fun h => h.get? v = some { cls := .type "dict_values", data := .fields #[.ref a] }
def tVals (td : TE) : TE := fun σ H Q => td σ H fun x H1 => ∃ a kvs, x = V.ref a ∧ H1 a = some (.dK kvs) ∧ ∀ v, H1 v = none → Q (.ref v) (upd H1 v (viewHO v a))
section
variable {X : Cx} {o : Expr} {apos mpos : Pos} {td : TE}
theorem pe_vals (hd : PE X o td) (hbase : attributeBase o "values" X.env (eval o X.env) = eval o X.env := by rfl) (hline : (apos.endLine == mpos.line) = true := by rfl) : PE X (.Call (.Attribute o "values" apos) [] [] mpos) (tVals td) := by
  refine ⟨fun pins s σ H Q I h => ?_⟩
  refine wpAny_Call_method0_late hbase hline (thn (hd.run pins s σ H _ I h) fun v s1 ⟨x, H1, I1, r1, a, kvs, ex, ha, q⟩ => ?_)
  subst ex
  obtain rfl : v = Value.ref a := r1
  obtain ⟨_, hsys, vs, rel, dof⟩ := dk_of I1.hok ha
  obtain ⟨ep, dat⟩ := dof.dictAt
  obtain ⟨ob, es, ho, ex, hdat, hko, hpr, hnd⟩ := dat
  refine ⟨"dict", "dict.values", F.plainAttrs_dict, F.slot_dict_values, F.type_dict_values, ⟨ob, ho, ex.1⟩, fun b e => ?_, Calls.callWith_builtin rfl (PySem.evalArgs_none ?_)⟩
  · cases e
    exact ⟨ob, ho, ex.2.1⟩
  refine call_meetsIn F.slot_dict_values ⟨ob, ho, ex.1⟩ F.entry_dict_values (F.args_dict_values_1 _) (meets_dict_values (mixKind X.prog X.w) a hsys) ⟨⟨vs, dof⟩, ?_⟩
  have k1 : ∀ b u, s1.heap.get? b = some u → (s1.heap.push { cls := .type "dict_values", data := .fields #[.ref a] }).get? b = some u := fun b u e => Heap.get?_push_of_some _ e
  have new : ObjOk X.prog X.w (upd H1 s1.heap.objs.size (viewHO s1.heap.objs.size a)) (s1.heap.push { cls := .type "dict_values", data := .fields #[.ref a] }) s1.heap.objs.size (viewHO s1.heap.objs.size a) :=
    ⟨Heap.get?_push_size _ rfl, ⟨_, Heap.get?_push_size _ rfl⟩, fun h1 h2 e k => k _ e⟩
  exact ⟨.ref _, _, I1.laid (t' := s1.toks) k1 (Nat.le_refl _) new, rfl, q _ (I1.hok.fresh (Nat.le_refl _))⟩
/-- the ints of a dict's values, by the view -/
theorem view_at {pins : List (Addr × Obj)} {s : Shared} {σ : L2.St} {H : Hp} (I : L2.Inv X pins σ H s) {v a : Addr} {kvs : List (Key × V)} {is : List Int} (hv : H v = some (viewHO v a)) (ha : H a = some (.dK kvs)) (hi : kvs.map (·.2) = is.map V.int) :
    ∃ vs ep, s.heap.get? v = some { cls := .type "dict_values", data := .fields #[.ref a] } ∧ s.heap.DictAt (mixKind X.prog X.w) a vs ep ∧ vs.length = is.length ∧ kvs.length ≤ sizeLine ∧ ∀ (i : Nat) (u : Value), (∃ k, vs[i]? = some (k, u)) → ∃ x t, is[i]? = some x ∧ u = Value.int x t := by
  obtain ⟨e, _, _⟩ := I.hok v _ hv
  obtain ⟨z, hsys, vs, rel, dof⟩ := dk_of I.hok ha
  obtain ⟨ep, dat⟩ := dof.dictAt
  refine ⟨vs, ep, e, dat, ?_, z, fun i u ⟨k, hk⟩ => ?_⟩
  · have e1 := congrArg List.length hi
    rw [List.length_map, List.length_map] at e1
    rw [← e1]
    exact (KV.length rel).symm
  · obtain ⟨x, h1, h2⟩ := KV.at' rel hk
    have e1 : (kvs.map (·.2))[i]? = some x := by rw [List.getElem?_map, h1] <;> rfl
    rw [hi, List.getElem?_map] at e1
    obtain ⟨j, hj, e2⟩ := Option.map_eq_some_iff.mp e1
    subst e2
    obtain ⟨t, e3⟩ := h2
    exact ⟨j, t, hj, e3⟩
/-- sum(d.values()) -/
def rSumV : List V → Hp → VK → Prop := fun vs H Q => ∃ (v a : Addr) (kvs : List (Key × V)) (is : List Int), vs = [V.ref v] ∧ H v = some (viewHO v a) ∧ H a = some (.dK kvs) ∧ kvs.map (·.2) = is.map V.int ∧ Q (.int is.sum) H
theorem preSum_getD (is : List Int) : ∀ n, n ≤ is.length → preSum (fun i => is.getD i 0) n = (is.take n).sum
  | 0, _ => by simp [preSum]
  | n + 1, h => by
    show preSum _ n + is.getD n 0 = _
    rw [preSum_getD is n (by omega), List.take_add_one, List.getElem?_eq_getElem (by omega), List.sum_append]
    simp [List.getD_eq_getElem?_getD, List.getElem?_eq_getElem (show n < is.length by omega)]
theorem cr_sumV (hc : X.calm = true) : CallR X (.builtin "sum") rSumV := by
  intro pins s σ H xs us Q I r h
  obtain ⟨v, a, kvs, is, rfl, hv, ha, hi, q⟩ := h
  obtain rfl := Vals.ref1 r
  obtain ⟨vs, ep, e, dat, hl, _, hval⟩ := view_at I hv ha hi
  refine call_sum_walkAnyS ?_
  obtain ⟨oI, St, hit, W, st⟩ := (PySem.W.kdl_values (prog := X.prog) (w := X.w) (knd := mixKind X.prog X.w) (d := a) (r := v) (kvs := vs) (ep := ep)).iter X.A.in1 s (I.ok.hd hc) ⟨⟨_, e, rfl, rfl⟩, dat⟩
  refine hit _ _ ⟨s.heap.objs.size, _, _, _, vs.length, _, _, fun i => is.getD i 0, rfl, W.toS, st, fun b hb => ?_, fun i u hu => ?_, fun s' t' hm => ?_⟩
  · show b < (s.heap.push oI).objs.size
    rw [Heap.size_push]
    rcases List.mem_cons.mp hb with e' | hb
    · rw [e']; exact Nat.lt_succ_self _
    · rw [List.mem_singleton.mp hb]; exact Nat.lt_succ_of_lt (by obtain ⟨ob, es, ho, _⟩ := id dat; exact Heap.lt_size ho)
  · obtain ⟨x, t, h1, h2⟩ := hval i u hu
    exact ⟨t, by rw [h2]; show Value.int x t = Value.int (is.getD i 0) t; rw [List.getD_eq_getElem?_getD, h1]; rfl⟩
  · have hk : ∀ b o, s.heap.get? b = some o → s'.heap.get? b = some o := fun b o e =>
      hm.heap b o (fun hI => absurd (Heap.lt_size e) (by rw [List.mem_singleton.mp hI]; exact Nat.lt_irrefl _)) (Heap.get?_push_of_some _ e)
    rw [Moved.eq_with hm]
    refine ⟨.int is.sum, H, I.kept hk, ⟨t', ?_⟩, q⟩
    rw [hl, preSum_getD is _ (Nat.le_refl _), List.take_length]
end

/-! ### sorted(d.values(), reverse=True) -/
section
variable {X : Cx}
def rSortedVR : List V → List V → Hp → VK → Prop := fun vs zs H Q => ∃ (v a : Addr) (kvs : List (Key × V)) (is : List Int), vs = [V.ref v] ∧ zs = [.bl true] ∧ H v = some (viewHO v a) ∧ H a = some (.dK kvs) ∧ kvs.map (·.2) = is.map V.int ∧
  ∀ (ns' : List Int) (p : Addr), ns'.Perm is → OrdB true ns' → H p = none → Q (.ref p) (upd H p (.lst (ns'.map V.int)))
theorem cr_sortedVR (hc : X.calm = true) : CallRK X (.builtin "sorted") [Str.ofString "reverse"] rSortedVR := by
  intro pins s σ H xs zs us ws Q I r rz h
  obtain ⟨v, a, kvs, is, rfl, rfl, hv, ha, hi, q⟩ := h
  obtain rfl := Vals.ref1 r
  obtain ⟨w1, rfl, e1⟩ := vals1 rz
  obtain rfl : w1 = Value.bool true := e1
  obtain ⟨vs, ep, e, dat, hl, hz, hval⟩ := view_at I hv ha hi
  have hz2 : vs.length ≤ sizeLine := by
    rw [hl]
    have := congrArg List.length hi
    rw [List.length_map, List.length_map] at this
    rw [← this]; exact hz
  refine call_function_entry_kw kind_sorted plain_sorted entry_sorted (PyProof.Rows.args_sorted_rev _ _) ?_
  unfold Builtin.«sorted»
  refine wpAny_bind (m := checkCount "sorted" 1 1 _) (wpAny_pure ?_)
  refine wpAny_bind (PySem.W.kdu_collect (A := X.A.in1) (PySem.W.kdl_values (prog := X.prog) (w := X.w) (knd := mixKind X.prog X.w) (d := a) (r := v) (kvs := vs) (ep := ep)) (I.ok.hd hc) ⟨⟨_, e, rfl, rfl⟩, dat⟩ hz2 fun h' tk acc hk hacc => ?_)
  have hal : acc.toList.length = is.length := by rw [Array.length_toList, hacc.1, hl]
  have hS : IntsAre acc.toList is := ints_each hal fun j u e => hval j u (hacc.2 j u (by rw [← Array.getElem?_toList]; exact e))
  have I1 : Inv X pins σ H { s with heap := h', toks := tk } := I.kept hk
  refine wpAny_bind (wpAny_newList ?_ (by rw [hal, ← hl]; exact hz2))
  have hoL : (h'.push (seqObj "list" acc.toList.toArray 0)).get? h'.objs.size = some (seqObj "list" acc.toList.toArray 0) := Heap.get?_push_size _ rfl
  show wpAny _ _ _ _ _ { s with heap := h'.push (seqObj "list" acc.toList.toArray 0), toks := tk }
  refine wpAny_bind (wpAny_holding (wpAny_call_entry_kw slot_list_sort ⟨_, hoL, rfl⟩ entry_list_sort ?_ (PyProof.Rows.args_list_sort_rev _ _)))
  refine SrtR.list_sort_ordR (b := true) SrtO.swo_int hoL (by rw [hal, ← hl]; exact hz2) (fun h2 => SrtO.ints_sortable hS h2) fun out h1 h2 => ⟨_, rfl, ?_⟩
  obtain ⟨ns', k1, k2, k3⟩ := SrtR.ints_outR (b := true) hS h1 h2
  obtain ⟨e', he'⟩ := PyProof.Rows.sortedHeap_at (vs := acc.toList) (out := out.toArray.reverse) hoL
  have hlen : (ns'.map V.int).length ≤ sizeLine := by
    rw [List.length_map, k2.length_eq, ← hl]
    exact hz2
  refine wpAny_pure ⟨_, rfl, .ref h'.objs.size, upd H h'.objs.size (.lst (ns'.map V.int)), I1.laid (t' := tk) (fun b u e => ?_) (Nat.le_refl _)
    (show ObjOk X.prog X.w _ _ _ (.lst (ns'.map V.int)) from ⟨hlen, out.toArray.reverse.toList, e', vals_of_ints k1, by rw [Array.toArray_toList]; exact he'⟩), rfl, q ns' _ k2 k3 (I1.hok.fresh (Nat.le_refl _))⟩
  have hb : b < h'.objs.size := Heap.lt_size e
  show (sortedHeap _ _ _ out.toArray.reverse).get? b = _
  rw [PyProof.Rows.sortedHeap_old (Nat.ne_of_lt hb) (by rw [size_push']; exact Nat.lt_succ_of_lt hb)]
  exact Heap.get?_push_of_some _ e
/-! ### sum(tuple) -/
def rSumT (K : Fg) : List V → Hp → VK → Prop := fun vs H Q => ∃ (a : Addr) (ns : List Int), vs = [V.ref a] ∧ SqT K H a (ns.map V.int) ∧ Q (.int ns.sum) H
theorem cr_sumT (hc : X.calm = true) : CallR X (.builtin "sum") (rSumT X.K) := by
  intro pins s σ H xs us Q I r h
  obtain ⟨a, ns, rfl, hs, q⟩ := h
  obtain ⟨its, rv, hl, _⟩ := I.tuple hs
  obtain rfl := Vals.ref1 r
  have hi := rv.ints
  obtain ⟨xs, hx⟩ := hi.allInts.items
  have hn : numsOf its.toArray.toList = ns := by rw [show its.toArray.toList = its from rfl, hi.numsOf]
  have hl' : s.heap.IsTuple a its.toArray := hl
  rw [hx] at hl' hn
  rw [nums_intItems] at hn
  refine PySem.W.ktm_sumG (I.ok.hd hc) hl' fun h' tk t' hk => ⟨.int ns.sum, H, I.kept hk, ⟨t', ?_⟩, q⟩
  rw [preSum_eq, List.take_of_length_le (by simp), hn]
/-! ### tuple * k, k from 1 on -/
theorem tuple_mul1 (l : Addr) (items : Array Value) (n : Nat) (dd : Option Addr) (sl : Array (Option Value)) (u : Tok) :
    Meets (Builtin.«tuple.__mul__» ⟨[.ref l, .int 1 u], []⟩) (fun _ R s => s.heap.get? l = some { cls := .type "tuple", dict := dd, data := .seq items n, slots := sl } ∧ R (.ok (.ret (Value.ref l))) s) :=
  .of_wp fun prog w A R s h => by
    obtain ⟨hp, g, d, tk, os⟩ := s
    obtain ⟨hl, h⟩ := h
    have f1 := AutoSeq1.idx_int
    have hT : (⟨hp, g, d, tk, os⟩ : Shared).TypeIs (.ref l) "tuple" := ⟨_, hl, rfl⟩
    wp_walk using wpAny_loadPart' hl
    exact ⟨_, rfl, h⟩
def rRepT1 (K : Fg) : R2 := fun x y H Q => ∃ l k xs, x = .ref l ∧ y = .int k ∧ SqT K H l xs ∧ xs ≠ [] ∧ 1 ≤ k ∧ k ≤ 1000 ∧ xs.length ≤ 1000 ∧ (k = 1 → Q (.ref l) H) ∧ (2 ≤ k → ∀ p, H p = none → Q (.ref p) (upd H p (.tup (List.replicate k.toNat xs).flatten)))
theorem op_repT1 : OpR X (binaryOp .Mult) (rRepT1 X.K) := by
  intro pins s σ H x y v u Q I rx ry h
  obtain ⟨l, k, xs, rfl, rfl, hT, hne, h1, h2, hz, q1, q2⟩ := h
  by_cases hk : k = 1
  · cases rx
    obtain ⟨t, rfl⟩ := ry
    subst hk
    obtain ⟨its, r, ⟨⟨cls, dd, data, sl⟩, ho, hc, n, hd⟩, hs⟩ := I.tuple hT
    simp only at hc hd
    subst hc hd
    exact wpAny_binaryOp_repeat_ref (T := "tuple") (U := "int") (by decide) ⟨_, ho, rfl⟩ (fun s' => typeIs_int s' 1 t) noFill_tuple_mul F.fills_int_mul F.slot_int_rmul repeat_tuple F.slot_int_index.lookup
      (call_meets F.slot_int_rmul (typeIs_int s 1 t) F.entry_int_rmul (F.args_int_rmul_2 _ _) (int_rmul_tuple 1 t l its.toArray n dd sl)
        ⟨ho, rfl, ⟨_, ho, rfl⟩, call_meets F.slot_tuple_mul ⟨_, ho, rfl⟩ F.entry_tuple_mul (F.args_tuple_mul_2 _ _) (tuple_mul1 l its.toArray n dd sl t) ⟨ho, .ref l, H, I, rfl, q1 rfl⟩⟩)
  · exact op_repT pins s σ H _ _ v u Q I rx ry ⟨l, k, xs, rfl, rfl, hT, hne, by omega, h2, hz, q2 (by omega)⟩
end
end B
/-! B: the layer over the rules of Bt; dicts that change -/
namespace B
open PySem L2
open PySem.W (Tup T3 T4 Datum DatumOrd)
open Evl (Ex)
section
variable {α β γ : Type} [Py α] [Py β] [Py γ] {K : Fg} {σ : SS} {W W' : Wd} {v : V} {te ta tb : TE} {ε : Ef}
theorem ro_cat {xs ys : List α} (hl : xs.length + ys.length ≤ 100000) : RO K rCat xs ys (xs ++ ys) := fun v u W1 ⟨a, vs, e, s, r⟩ ⟨b, us, e', s', r'⟩ Q k =>
  ⟨a, b, vs, us, e, e', W1.sub.el s, W1.sub.el s', Evl.sz_of (by rw [Reps.len r, Reps.len r']; exact hl), fun p hp =>
    k _ (W1.add p _) (W1.grow_add hp) ⟨p, _, rfl, upd_same, Reps.app (Reps.mono (exExt (W1.grow_add hp).b) r) (Reps.mono (exExt (W1.grow_add hp).b) r')⟩⟩
theorem reps_nil {H : Hp} {vs : List V} {xs : List α} (r : Reps K H vs xs) (h : vs = []) : xs = [] := by
  cases r with
  | nil => rfl
  | cons a b => cases h
theorem ro_catT {xs ys : Tup α} (hl : xs.items.length + ys.items.length ≤ 100000) : RO K (rCatA K) xs ys (Tup.mk (xs.items ++ ys.items)) := fun v u W1 ⟨a, vs, e, s, r⟩ ⟨b, us, e', s', r'⟩ Q k =>
  ⟨a, b, vs, us, e, e', SqT.of (W1.sub.et s), SqT.of (W1.sub.et s'), Evl.sz_of (by rw [Reps.len r, Reps.len r']; exact hl),
    fun h0 => k _ W1 (.refl _ _) ⟨b, us, rfl, s', by rw [reps_nil r h0]; exact r'⟩,
    fun _ h0 => k _ W1 (.refl _ _) ⟨a, vs, rfl, s, by rw [reps_nil r' h0, List.append_nil]; exact r⟩,
    fun _ _ p hp => k _ (W1.add p _) (W1.grow_add hp) ⟨p, _, rfl, upd_same, Reps.app (Reps.mono (exExt (W1.grow_add hp).b) r) (Reps.mono (exExt (W1.grow_add hp).b) r')⟩⟩
theorem rc_sumT {xs : Tup Int} : RC1 K (rSumT K) xs xs.items.sum := fun v W1 ⟨a, vs, e, s, r⟩ Q k => ⟨a, xs.items, by rw [e], by rw [← reps_int r]; exact SqT.of (W1.sub.et s), k _ W1 (.refl _ _) rfl⟩
theorem reps_rep {H : Hp} {vs : List V} {xs : List α} (r : Reps K H vs xs) : ∀ n : Nat, Reps K H (List.replicate n vs).flatten (List.replicate n xs).flatten
  | 0 => .nil
  | n + 1 => by
    rw [List.replicate_succ, List.replicate_succ, List.flatten_cons, List.flatten_cons]
    exact Reps.app r (reps_rep r n)
theorem ro_repT {xs : Tup α} {n : Int} (hne : xs.items ≠ []) (h1 : 1 ≤ n) (h2 : n ≤ 1000) (hl : xs.items.length ≤ 1000) : RO K (rRepT1 K) xs n (Tup.mk (List.replicate n.toNat xs.items).flatten) := fun v u W1 ⟨a, vs, e, s, r⟩ ru Q k =>
  ⟨a, n, vs, e, ru, SqT.of (W1.sub.et s), fun z => hne (reps_nil r z), h1, h2, by rw [Reps.len r]; exact hl, fun h => k _ W1 (.refl _ _) ⟨a, vs, rfl, s, by
      subst h
      simpa using r⟩, fun _ p hp => k _ (W1.add p _) (W1.grow_add hp) ⟨p, _, rfl, upd_same, Reps.mono (exExt (W1.grow_add hp).b) (reps_rep r _)⟩⟩
theorem rc_tupL {xs : List α} : RC1 K (rTupleO K) xs (Tup.mk xs) := fun v W1 ⟨a, vs, e, s, r⟩ Q k => ⟨a, vs, by rw [e], .inl ⟨SqL.of (W1.sub.el s), fun l hl =>
  k _ (W1.add l (.tup vs)) (W1.grow_add hl) ⟨l, vs, rfl, upd_same, Reps.mono (exExt (W1.grow_add hl).b) r⟩⟩⟩
/-- zip of two tuples -/
theorem ei_zipT {xs : Tup α} {ys : Tup β} (ha : EvR ε K ta σ W xs) (hb : EvR ε K tb σ W ys) : EvJ ε K (RZ.iZipA K (tCons ta (tCons tb tNil))) σ W (xs.items.zip ys.items) := fun W1 g1 R k => ha W1 g1 _ fun v W2 g2 r1 => hb W2 (g1.trans g2) _ fun u W3 g3 r2 => by
  obtain ⟨a, vs, e, s, r⟩ := rep_s g3 r1
  obtain ⟨b, us, e', s', r'⟩ := r2
  refine ⟨a, b, vs, us, by rw [e, e'], .inr ⟨SqT.of (W3.sub.et s), SqT.of (W3.sub.et s'), k (RZ.ItzT K a b) W3 (g2.trans g3) ⟨fun i W' o hi => ?_, fun i W' v H'' o hi ⟨T, x, y, e1, hT, e2, e3, e4⟩ => ?_, fun i W' o hi => ?_⟩⟩⟩
  · have hi' : i < xs.items.length ∧ i < ys.items.length := by simp at hi; omega
    obtain ⟨x, hx⟩ : ∃ x, xs.items[i]? = some x := ⟨xs.items[i], by simp [hi'.1]⟩
    obtain ⟨y, hy⟩ : ∃ x, ys.items[i]? = some x := ⟨ys.items[i], by simp [hi'.2]⟩
    obtain ⟨v, h1, _⟩ := Reps.get' r hx
    obtain ⟨u, h2, _⟩ := Reps.get' r' hy
    exact ⟨vs, us, v, u, SqT.of (W'.sub.et (o.b _ _ s)), SqT.of (W'.sub.et (o.b _ _ s')), h1, h2⟩
  · obtain ⟨p, h1, h2⟩ := Reps.get r (e3 vs (SqT.of (W'.sub.et (o.b _ _ s))))
    obtain ⟨q, h3, h4⟩ := Reps.get r' (e4 us (SqT.of (W'.sub.et (o.b _ _ s'))))
    refine ⟨(p, q), W'.add T _, e2.symm, W'.grow_add hT, ?_, T, x, y, e1, upd_same, rep_g (W'.grow_add hT) (rex o.b h2), rep_g (W'.grow_add hT) (rex o.b h4)⟩
    rw [List.getElem?_zip_eq_some]
    exact ⟨h1, h3⟩
  · refine ⟨vs, us, SqT.of (W'.sub.et (o.b _ _ s)), SqT.of (W'.sub.et (o.b _ _ s')), ?_⟩
    rw [Reps.len r, Reps.len r']
    simp at hi
    omega
def signs (x : Str) : List Str := x.cps.toList.map fun c => ⟨#[c]⟩
/-- zip of a text and a tuple -/
theorem ei_zipS {x : Str} {ys : Tup β} (ha : EvR ε K ta σ W x) (hb : EvR ε K tb σ W ys) : EvJ ε K (iZipS K (tCons ta (tCons tb tNil))) σ W ((signs x).zip ys.items) := fun W1 g1 R k => ha W1 g1 _ fun v W2 g2 r1 => hb W2 (g1.trans g2) _ fun u W3 g3 r2 => by
  have e : v = .str x := r1
  obtain ⟨b, us, e', s', r'⟩ := r2
  have hl := Reps.len r'
  have hs : (signs x).length = x.cps.size := by simp [signs]
  refine ⟨x, b, us, by rw [e, e'], SqT.of (W3.sub.et s'), k (ItzS K x b us.length) W3 (g2.trans g3) ⟨fun i W' o hi => ?_, fun i W' v H'' o hi ⟨T, c, y, e1, hT, e2, e3, e4⟩ => ?_, fun i W' o hi => ?_⟩⟩
  · rw [List.length_zip, hs] at hi
    exact ⟨by omega, by omega, us, SqT.of (W'.sub.et (o.b _ _ s')), rfl⟩
  · obtain ⟨q, h3, h4⟩ := Reps.get r' (e4 us (SqT.of (W'.sub.et (o.b _ _ s'))))
    refine ⟨(⟨#[c]⟩, q), W'.add T _, e2.symm, W'.grow_add hT, ?_, T, _, y, e1, upd_same, rfl, rep_g (W'.grow_add hT) (rex o.b h4)⟩
    rw [List.getElem?_zip_eq_some]
    refine ⟨?_, h3⟩
    unfold signs
    rw [List.getElem?_map, Array.getElem?_toList, e3]
    rfl
  · rw [List.length_zip, hs] at hi
    exact ⟨by omega, us, SqT.of (W'.sub.et (o.b _ _ s')), rfl⟩
theorem kreps_ints {κ : Type} [PyKey κ] {H : Hp} {ks : List (Key × V)} {kv : List (κ × Int)} (r : KReps K H ks kv) : ks.map (·.2) = (kv.map (·.2)).map V.int := by
  induction r with
  | nil => rfl
  | cons a b ih => rw [List.map_cons, List.map_cons, List.map_cons, ih, show _ = _ from a.2]
/-- sorted(d.values(), reverse=True): what falls with the same items -/
theorem ev_sortedVR {κ : Type} [PyKey κ] {d : Dict κ Int} {ys : List Int} (h : EvD ε K te σ W d) (hp : ys.Perm (d.kv.map (·.2))) (ho : ys.Pairwise (· ≥ ·)) : EvR ε K (tCKw rSortedVR (tCons (tVals te) tNil) (tCons (tC (.bl true)) tNil)) σ W ys := fun W1 g1 Q k => h W1 g1 _ fun v W2 g2 ⟨a, ks, e, hB, hH, r⟩ =>
  ⟨a, ks, e, hH, fun w hw => by
    have ne : a ≠ w := fun z => by rw [z, hw] at hH; cases hH
    have gw := W2.grow_put (o := viewHO w a) hw
    refine ⟨w, a, ks, d.kv.map (·.2), rfl, rfl, upd_same, (upd_ne ne).trans hH, kreps_ints r, fun ns' p h1 h2 hp0 => ?_⟩
    have e2 : ns' = ys := (h1.trans hp.symm).eq_of_pairwise (fun a b _ _ h h' => Int.le_antisymm h' h) (show ns'.Pairwise (· ≥ ·) from h2) ho
    subst e2
    exact k _ ((W2.put w _ (W2.free hw)).add p _) ((g2.and gw).and (Wd.grow_add _ hp0)) ⟨p, _, rfl, upd_same, int_reps _⟩⟩
theorem ev_sumV {κ : Type} [PyKey κ] {d : Dict κ Int} (h : EvD ε K te σ W d) : EvR ε K (tCB rSumV (tCons (tVals te) tNil)) σ W (d.kv.map (·.2)).sum := fun W1 g1 Q k => h W1 g1 _ fun v W2 g2 ⟨a, ks, e, hB, hH, r⟩ =>
  ⟨a, ks, e, hH, fun w hw => by
    have ne : a ≠ w := fun z => by rw [z, hw] at hH; cases hH
    exact ⟨w, a, ks, d.kv.map (·.2), rfl, upd_same, (upd_ne ne).trans hH, kreps_ints r, k _ (W2.put w _ (W2.free hw)) (g2.and (W2.grow_put hw)) rfl⟩⟩
end
/-- what is new may change unseen -/
theorem Md.fresh {S : List Addr} {W W1 W2 : Wd} {d : Addr} (a : Md S W W1) (b : Md (d :: S) W1 W2) (f : W.H d = none) : Md S W W2 := ⟨a.b.trans b.b, fun x o h1 h2 => b.l x o (a.b x o h1) (a.l x o h1 h2), fun x o h1 h2 => b.o x o (fun z => by
    rcases List.mem_cons.mp z with e | z
    · rw [e, f] at h2; cases h2
    · exact h1 z) (a.o x o h1 h2), fun x hx => by rw [b.m x (a.n x hx), a.m x hx], fun x hx => b.d x (a.d x hx), fun x hx => b.n x (a.n x hx)⟩
/-! ### dicts that change -/
structure DMut {κ α : Type} [PyKey κ] [Py α] (K : Fg) (W : Wd) (d : Addr) (kv : List (κ × α)) : Prop where
  b : W.B d = none
  ex : ∃ ks, W.H d = some (.dK ks) ∧ KReps K W.B ks kv
section
variable {κ α : Type} [DecidableEq κ] [PyKey κ] [Py α] {K : Fg} {W W' : Wd} {d : Addr} {kv : List (κ × α)} {ε : Ef} {σ : SS} {S : List Addr} {ty tv tx te : TE}
theorem DMut.nt (m : DMut K W d kv) : Nt W.H d := by
  obtain ⟨ks, e, _⟩ := m.ex
  exact .k e
theorem DMut.g (m : DMut K W d kv) (g : Md S W W') (h : d ∉ S) : DMut K W' d kv := by
  obtain ⟨ks, e, r⟩ := m.ex
  have := g.mut h e m.b
  exact ⟨this.2, ks, this.1, KReps.mono (exExt g.b) r⟩
theorem DMut.gr (m : DMut K W d kv) (g : Grow W W') : DMut K W' d kv := m.g g (by simp)
theorem DMut.s (m : DMut K W d kv) (g : Stp ε W W') (h : d ∉ ε.S) : DMut K W' d kv := m.g g.md h
theorem DMut.new (W : Wd) {d : Addr} (h : W.H d = none) : DMut K (W.put d (.dK []) (W.free h)) d ([] : List (κ × α)) := ⟨W.free h, [], upd_same, .nil⟩
/-- d[k] = v -/
theorem s_dput {D : Ends} {i : Nat} {k : κ} {x : α} (hd : σ[i]? = some (some (.ref d))) (m : DMut K W d kv) (hv : EvR pur K tv σ W x) (hk : EvP pur ty σ W (fun u _ => u = kV (PyKey.key k))) (hl : kv.length < 100000)
    (q : ∀ W', Md [d] W W' → On W W' → DMut K W' d (kput kv k x) → D.nx σ W'.H) : sDPut (tVar i) ty tv D σ W.H := hv W (.start trivial) _ fun v W1 g1 rv => ⟨.ref d, hd, hk W1 g1 _ fun u W2 g2 e => by
  have g := (g1.trans g2).pure
  obtain ⟨ks, e1, r⟩ := (m.gr g).ex
  have b := (m.gr g).b
  refine ⟨d, _, rfl, .inl ⟨ks, PyKey.key k, e1, e, by rw [KReps.len r]; exact Evl.sz_lt hl, rfl⟩, q (W2.put d _ b) ((Grow.s g).trans (md_put b)) (g.on.trans (md_put b).on) ⟨b, _, upd_same, KReps.put r k (rep_s g2 rv)⟩⟩⟩
theorem ek_of [Py κ] {k : κ} (hv : ∀ {H : Hp} {v : V}, rep K H v k → v = kV (PyKey.key k)) (h : EvR ε K te σ W k) : EvP ε te σ W (fun u _ => u = kV (PyKey.key k)) := fun W1 g1 Q q => h W1 g1 _ fun v W2 g2 r => q v W2 g2 (hv r)
theorem ek_int {n : Int} (h : EvR ε K te σ W n) : EvP ε te σ W (fun u _ => u = kV (PyKey.key n)) := ek_of (fun r => r) h
theorem ek_str {n : Str} (h : EvR ε K te σ W n) : EvP ε te σ W (fun u _ => u = kV (PyKey.key n)) := ek_of (fun r => r) h
theorem klk {H : Hp} {ks : List (Key × V)} (r : KReps K H ks kv) (k : κ) : (klook kv k = none ∧ valV ks (PyKey.key k) = none) ∨ ∃ x v, klook kv k = some x ∧ valV ks (PyKey.key k) = some v ∧ rep K H v x := by
  cases e : klook kv k with
  | none => exact .inl ⟨rfl, r.none e⟩
  | some x =>
    obtain ⟨v, h1, h2⟩ := r.some e
    exact .inr ⟨x, v, rfl, h1, h2⟩
/-- d.get(k, x) -/
theorem ev_dget2 {i : Nat} {k : κ} {x : α} (hd : σ[i]? = some (some (.ref d))) (m : DMut K W d kv) (hS : d ∉ ε.S) (hk : EvP ε ty σ W (fun u _ => u = kV (PyKey.key k))) (hx : EvR ε K tx σ W x) : EvR ε K (tDGet2 (tVar i) ty tx) σ W ((klook kv k).getD x) := fun W1 g1 Q q => by
  obtain ⟨ks, e1, r⟩ := (m.s g1 hS).ex
  refine ⟨_, hd, d, rfl, .inl ⟨ks, .inl e1⟩, hk W1 g1 _ fun u W2 g2 eu => hx W2 (g1.trans g2) _ fun w W3 g3 rw => ?_⟩
  obtain ⟨ks, e3, r⟩ := (m.s ((g1.trans g2).trans g3) hS).ex
  rcases klk r k with ⟨h1, h2⟩ | ⟨y, v, h1, h2, h3⟩
  · exact ⟨none, .inl ⟨ks, _, .inl e3, eu, h2.symm⟩, q _ W3 (g2.trans g3) (by rw [h1]; exact rw)⟩
  · exact ⟨some v, .inl ⟨ks, _, .inl e3, eu, h2.symm⟩, q _ W3 (g2.trans g3) (by rw [h1]; exact h3)⟩
/-- it shall stay -/
theorem DMut.fix (m : DMut K W d kv) : ∃ o, ∃ h : W.H d = some o, DictAt K (W.fix d o h) (.ref d) ⟨kv⟩ ∧ Ex W.B (W.fix d o h).B ∧ ∀ W0 S, Md S W0 W → W0.H d = none → Md S W0 (W.fix d o h) := by
  obtain ⟨ks, e, r⟩ := m.ex
  exact ⟨_, e, ⟨d, ks, rfl, upd_same, e, KReps.mono (exExt (ex_fix e m.b)) r⟩, ex_fix e m.b, fun W0 S g f => md_fix g e m.b f⟩
end
/-! ### dicts with tuples of ints as keys -/
structure TMut (W : Wd) (d : Addr) (ks : List (List Key)) : Prop where
  b : W.B d = none
  ex : ∃ kvs, W.H d = some (.dT kvs) ∧ kvs.map (·.1) = ks
section
variable {W W' : Wd} {d : Addr} {ks : List (List Key)} {S : List Addr} {K : Fg} {σ : SS} {ty tv te : TE} {ε : Ef}
theorem TMut.nt (m : TMut W d ks) : Nt W.H d := by
  obtain ⟨k, e, _⟩ := m.ex
  exact ⟨_, e, fun _ z => by cases z⟩
theorem TMut.g (m : TMut W d ks) (g : Md S W W') (h : d ∉ S) : TMut W' d ks := by
  obtain ⟨k, e, r⟩ := m.ex
  have := g.mut h e m.b
  exact ⟨this.2, k, this.1, r⟩
theorem TMut.gr (m : TMut W d ks) (g : Grow W W') : TMut W' d ks := m.g g (by simp)
def tput (ks : List (List Key)) (k : List Key) : List (List Key) := if (ks.any fun x => decide (x = k)) = true then ks else ks ++ [k]
theorem tput_keys (kvs : List (List Key × V)) (k : List Key) (v : V) : (putK kvs k v).map (·.1) = tput (kvs.map (·.1)) k := by
  unfold putK tput
  have : (kvs.any fun kv => decide (kv.1 = k)) = ((kvs.map (·.1)).any fun x => decide (x = k)) := by
    rw [List.any_map]
    rfl
  by_cases h : (kvs.any fun kv => decide (kv.1 = k)) = true
  · rw [if_pos h, if_pos (this ▸ h), List.map_map]
    refine List.map_congr_left fun q _ => ?_
    show (if q.1 = k then (q.1, v) else q).1 = q.1
    split <;> rfl
  · rw [if_neg h, if_neg (fun z => h (this ▸ z)), List.map_append]
    rfl
theorem tput_mem {ks : List (List Key)} {k j : List Key} : j ∈ tput ks k ↔ j ∈ ks ∨ j = k := by
  unfold tput
  split
  · rename_i h
    obtain ⟨x, hx, e⟩ := List.any_eq_true.mp h
    have e' : x = k := of_decide_eq_true e
    exact ⟨.inl, fun z => z.elim id fun e => by rw [e, ← e']; exact hx⟩
  · simp
theorem tput_len (ks : List (List Key)) (k : List Key) : (tput ks k).length ≤ ks.length + 1 := by
  unfold tput
  split <;> simp
def ikey (xs : List Int) : List Key := xs.map Sum.inl
theorem ikey_vals {xs : List Int} : (ikey xs).map kV = xs.map V.int := by
  unfold ikey
  rw [List.map_map]
  rfl
theorem s_tput {α : Type} [Py α] {D : Ends} {i : Nat} {k : Tup Int} {x : α} (hd : σ[i]? = some (some (.ref d))) (m : TMut W d ks) (hv : EvR pur K tv σ W x) (hk : EvR pur K ty σ W k) (hl : ks.length ≤ 1000000)
    (q : ∀ W', Md [d] W W' → On W W' → TMut W' d (tput ks (ikey k.items)) → D.nx σ W'.H) : sDPut (tVar i) ty tv D σ W.H := hv W (.start trivial) _ fun v W1 g1 rv => ⟨.ref d, hd, hk W1 g1 _ fun u W2 g2 ⟨b, vs, e, s, r⟩ => by
  have g := (g1.trans g2).pure
  obtain ⟨kvs, e1, r1⟩ := (m.gr g).ex
  have bd := (m.gr g).b
  have len : kvs.length = ks.length := by rw [← r1, List.length_map]
  refine ⟨d, _, rfl, .inr ⟨kvs, ikey k.items, b, e1, e, ?_, by rw [len, PySem.sizeLine_eq]; omega, rfl⟩, q (W2.put d _ bd) ((Grow.s g).trans (md_put bd)) (g.on.trans (md_put bd).on) ⟨bd, _, upd_same, by rw [tput_keys, r1]⟩⟩
  rw [ikey_vals, ← reps_int r]
  exact W2.sub.et s⟩
abbrev rListDT : List V → Hp → VK → Prop := fun xs H Q => ∃ d kvs, xs = [V.ref d] ∧ Rd H d (.dT kvs) ∧ ∀ p bs, H p = none → IsKeys H kvs bs → Q (.ref p) (upd H p (.lst (bs.map V.ref)))
/-- list(d) -/
theorem ev_listDT {i : Nat} {xs : List (Tup Int)} (hd : σ[i]? = some (some (.ref d))) (m : TMut W d ks) (hx : ks = xs.map fun t => ikey t.items) : EvR pur K (tCB rListDT (tCons (tVar i) tNil)) σ W xs := fun W1 g1 Q q => by
  obtain ⟨kvs, e1, r1⟩ := (m.gr g1.pure).ex
  refine ⟨_, hd, d, kvs, rfl, .inl e1, fun p bs hp hk => ?_⟩
  have gt := W1.grow_tup bs
  have hp' : (W1.tup bs).H p = none := hp
  refine q _ ((W1.tup bs).add p _) (.of (gt.trans (Wd.grow_add _ hp'))) ⟨p, _, rfl, upd_same, ?_⟩
  have rB : Reps K (W1.tup bs).B (bs.map V.ref) xs := by
    subst hx
    clear q e1
    have main : ∀ (kvs : List (List Key × V)) (bs' : List Addr) (xs : List (Tup Int)), (∀ b ∈ bs', b ∈ bs) → IsKeys W1.H kvs bs' → kvs.map (·.1) = xs.map (fun t => ikey t.items) → Reps K (W1.tup bs).B (bs'.map V.ref) xs := by
      intro kvs
      induction kvs with
      | nil =>
        intro bs' xs _ hk hm
        cases hk
        cases xs with
        | nil => exact .nil
        | cons x xs => cases hm
      | cons kv kvs ih =>
        intro bs' xs hs hk hm
        cases hk with
        | cons h1 h2 =>
          cases xs with
          | nil => cases hm
          | cons x xs =>
            rw [List.map_cons, List.map_cons] at hm
            injection hm with hm1 hm2
            refine .cons ⟨_, _, rfl, Wd.tup_at h1 (hs _ List.mem_cons_self), ?_⟩ (ih _ _ (fun b hb => hs b (List.mem_cons_of_mem _ hb)) h2 hm2)
            rw [hm1, ikey_vals]
            exact int_reps _
    exact main kvs bs xs (fun _ h => h) hk r1
  exact Reps.mono (exExt (Wd.grow_add _ hp').b) rB
end
/-! ### [e for x in ..] where e is drawn -/
section
variable {α β : Type} [Py α] [Py β] {K : Fg} {σ : SS} {W W' : Wd} {v : V} {te : TE} {wi : TI} {ε : Ef}
/-- what is walked, not known whole -/
def EvIQ {α : Type} [Py α] (ε : Ef) (K : Fg) (wi : TI) (σ : SS) (W : Wd) (P : List α → Prop) : Prop :=
  ∀ W1, Stp ε W W1 → ∀ R : It → Hp → Prop, (∀ J S W2 xs, P xs → Stp ε W1 W2 → S W2 → (∀ W W', S W → Stp ε W W' → S W') → Src K J S xs → R J W2.H) → wi σ W1.H R
theorem EvI.q {xs : List α} (h : EvI ε K wi σ W xs) : EvIQ ε K wi σ W (fun ys => ys = xs) := fun W1 g1 R k => h W1 g1 R fun J S W2 g2 s sg src => k J S W2 xs rfl g2 s sg src
theorem ei_rngQ {P : Int → Prop} (h : EvP ε te σ W (fun v _ => ∃ n, v = .int n ∧ P n)) (hb : ∀ n, P n → n ≤ 1000000000 ∧ -1000000000 ≤ n) : EvIQ (α := Int) ε K (iRng1 (tCons te tNil)) σ W (fun xs => ∃ n, P n ∧ xs = rng 0 n.toNat) := fun W1 g1 R k => h W1 g1 _ fun v W2 g2 ⟨n, e, p⟩ =>
  ⟨n, by rw [e], by have := hb n p; omega, by have := hb n p; omega, k _ (fun _ => True) W2 _ ⟨n, p, rfl⟩ g2 trivial (fun _ _ _ _ => trivial) src_range⟩
theorem en_lcQ {j : Nat} {P : List α → Prop} {R : β → Prop} (hi : EvIQ ε K wi σ W P) (hl : ∀ xs, P xs → xs.length ≤ 100000) (he : ∀ (x : α) v W', Stp ε W W' → rep K W'.B v x → EvP ε te ((wipe σ [j]).set j (some v)) W' (fun u W2 => ∃ y : β, R y ∧ rep K W2.B u y)) :
    ∀ W1, Stp ε W W1 → ∀ Q : VK, (∀ p vs (xs : List α) (ys : List β) W2, P xs → Stp ε W1 W2 → W1.H p = none → W2.B p = none → W2.H p = some (.lst vs) → Reps K W2.B vs ys → ys.length = xs.length → (∀ y ∈ ys, R y) → Q (.ref p) W2.H) → tLc wi (gName j) tYes te [j] σ W1.H Q := fun W1 g1 Q k =>
  hi W1 g1 _ fun J S W2 xs hP g2 s2 sg src D hD => by
    have hl := hl xs hP
    have DS : D ∉ ε.S := Ef.off g2.i hD
    refine ⟨fun i m H => m = xs.length - i ∧ i ≤ xs.length ∧ ∃ Wi acc ys, Wi.H = H ∧ Stp ε W2 Wi ∧ Wi.B D = none ∧ Wi.H D = some (.lst acc) ∧ Reps K Wi.B acc ys ∧ ys.length = i ∧ ∀ y ∈ ys, R y, ⟨xs.length, rfl, Nat.zero_le _, W2.put D (.lst []) (W2.free hD), [], ([] : List β), rfl, ⟨md_mut (.refl _ _) (W2.free hD) hD, i_put DS g2.i _⟩, W2.free hD, upd_same, .nil, rfl, by simp⟩, ?_⟩
    rintro i m H ⟨rfl, hle, Wi, acc, ys, rfl, gi, bD, hDi, rs, hyl, hR⟩
    have si : S Wi := sg _ _ s2 gi
    have hacc : acc.length ≤ i := by rw [Reps.len rs, hyl]; exact Nat.le_refl _
    by_cases hlt : i < xs.length
    · refine .inr ⟨src.go i Wi si hlt, fun H => i + 1 ≤ xs.length ∧ ∃ Wi acc ys, Wi.H = H ∧ Stp ε W2 Wi ∧ Wi.B D = none ∧ Wi.H D = some (.lst acc) ∧ Reps K Wi.B acc (ys : List β) ∧ ys.length = i + 1 ∧ ∀ y ∈ ys, R y, fun H' h' => ⟨_, by omega, rfl, h'⟩, fun v H'' hy => ?_⟩
      obtain ⟨x, W3, rfl, g3', hx, r⟩ := src.yld i Wi v H'' si hlt hy
      have g3 : Stp ε Wi W3 := gi.rf.and g3'
      have m3 := g3.md.mut DS hDi bD
      refine ⟨wipe1, ?_⟩
      refine et_yes (ε := ε) W3 g3.rf _ fun W4 g4 => ?_
      rw [if_pos rfl]
      have m4 := g4.md.mut DS m3.1 m3.2
      refine he x v W4 ((((g1.trans g2).trans gi).trans g3).trans g4) (rep_s g4 r) W4 g4.rf _ fun u W5 g5 ⟨y, hy1, r5⟩ => ?_
      have m5 := g5.md.mut DS m4.1 m4.2
      refine ⟨acc, m5.1, Evl.sz_lt (by omega), hlt, W5.put D _ m5.2, acc ++ [u], ys ++ [y], rfl, ⟨md_mut (((gi.trans g3).trans g4).trans g5).md m5.2 hD, i_put DS g5.i _⟩, m5.2, upd_same, Reps.snoc (Reps.mono (exExt ((g3.trans g4).trans g5).md.b) rs) r5, by rw [List.length_append, hyl]; rfl, fun z hz => ?_⟩
      rcases List.mem_append.mp hz with h | h
      · exact hR z h
      · rw [List.mem_singleton.mp h]; exact hy1
    · have e : i = xs.length := by omega
      subst e
      exact .inl ⟨src.stop _ Wi si (Nat.le_refl _), k D acc xs ys Wi hP (g2.trans gi) (by
        cases e : W1.H D with
        | none => rfl
        | some o => exact absurd hD (g2.md.d D (by rw [e]; exact fun z => by cases z))) bD hDi rs hyl hR⟩
theorem ep_lcQ {j : Nat} {P : List α → Prop} {R : β → Prop} (hi : EvIQ ε K wi σ W P) (hl : ∀ xs, P xs → xs.length ≤ 100000) (he : ∀ (x : α) v W', Stp ε W W' → rep K W'.B v x → EvP ε te ((wipe σ [j]).set j (some v)) W' (fun u W2 => ∃ y : β, R y ∧ rep K W2.B u y)) :
    EvP ε (tLc wi (gName j) tYes te [j]) σ W (fun v W' => ∃ (xs : List α) (ys : List β), P xs ∧ ys.length = xs.length ∧ (∀ y ∈ ys, R y) ∧ rep K W'.B v ys) := fun W1 g1 Q k =>
  en_lcQ hi hl he W1 g1 Q fun p vs xs ys W2 hP g2 f n e r hly hR => k _ (W2.fix p _ e) (g2.fix f g1.i e n) ⟨xs, ys, hP, hly, hR, p, vs, rfl, upd_same, Reps.mono (exExt (ex_fix e n)) r⟩
/-- m + a drawn number -/
theorem ep_add {m : Int} {P : Int → Prop} (h : EvP ε te σ W (fun v _ => ∃ n, v = .int n ∧ P n)) : EvP ε (tOp oAdd (tC (.int m)) te) σ W (fun v _ => ∃ n, v = .int (m + n) ∧ P n) := fun W1 g1 Q k => h W1 g1 _ fun v W2 g2 ⟨n, e, p⟩ =>
  ⟨m, n, rfl, e, k _ W2 g2 ⟨n, rfl, p⟩⟩
/-- a drawn number == m -/
theorem ep_eq (K0 : Fg) {m : Int} {P : Int → Prop} (h : EvP ε te σ W (fun v _ => ∃ n, v = .int n ∧ P n)) : EvP ε (tOp rEq te (tC (.int m))) σ W (fun v _ => ∃ b : Bool, v = .bl b) := fun W1 g1 Q k => h W1 g1 _ fun v W2 g2 ⟨n, e, p⟩ => by
  subst e
  exact ro_eqI (K := K0) _ _ W2 rfl rfl Q fun w W3 g3 r => k w W3 (g2.and g3) ⟨_, r⟩
/-- a test that is drawn -/
def EvTQ (ε : Ef) (tt : TT) (σ : SS) (W : Wd) : Prop := ∀ W1, Stp ε W W1 → ∀ Q : Bool → Hp → Prop, (∀ b W2, Stp ε W1 W2 → Q b W2.H) → tt σ W1.H Q
theorem etq (h : EvP ε te σ W (fun v _ => ∃ b : Bool, v = .bl b)) : EvTQ ε (tTest te) σ W := fun W1 g1 Q k => h W1 g1 _ fun v W2 g2 ⟨b, e⟩ => ⟨b, e, k b W2 g2⟩
theorem q_whenQ {D : Ends} {t : TT} {tu tz : TS} (h : EvTQ ε t σ W) (s : ε.I W) (h1 : ∀ W', Stp ε W W' → tu { D with nx := tz D } σ W'.H) (h2 : ∀ W', Stp ε W W' → tz D σ W'.H) : tSeq (tIfS t tu tNext) tz D σ W.H := h W (.start s) _ fun b W' g => by
  cases b with
  | true => exact h1 W' g
  | false => exact h2 W' g
/-- both ways meet again in R -/
theorem q_whenJ {D : Ends} {t : TT} {tu tz : TS} (R : Wd → Prop) (h : EvTQ ε t σ W) (s : ε.I W) (k : ∀ W', R W' → tz D σ W'.H) (h1 : ∀ W', Stp ε W W' → (∀ W'', R W'' → tz D σ W''.H) → tu { D with nx := tz D } σ W'.H) (h2 : ∀ W', Stp ε W W' → R W') : tSeq (tIfS t tu tNext) tz D σ W.H :=
  q_whenQ h s (fun W' g => h1 W' g k) (fun W' g => k W' (h2 W' g))
end
end B
/-! the draws of the laws: begun, draw, pick -/
namespace B
open PySem L2
open Evl (Ex)
/-- the state of draws: the list at p holds the cells' list (at c), the place, the mixed number -/
structure St (W : Wd) (p c : Addr) : Prop where
  bp : W.B p = none
  bc : W.B c = none
  ne : p ≠ c
  ex : ∃ (a m : Int) (cs : List Int), W.H p = some (.lst [.ref c, .int a, .int m]) ∧ W.H c = some (.lst (cs.map V.int)) ∧ cs ≠ [] ∧ (∀ x ∈ cs, 0 ≤ x) ∧ 0 ≤ a ∧ 0 ≤ m ∧ m < 2147483647
theorem St.keep {W W' : Wd} {p c : Addr} (s : St W p c) (hp : W'.H p = W.H p) (hc : W'.H c = W.H c) (bp : W'.B p = W.B p) (bc : W'.B c = W.B c) : St W' p c :=
  ⟨bp.trans s.bp, bc.trans s.bc, s.ne, by
    obtain ⟨a, m, cs, h1, h2, r⟩ := s.ex
    exact ⟨a, m, cs, hp.trans h1, hc.trans h2, r⟩⟩
theorem St.dom {W : Wd} {p c : Addr} (s : St W p c) : W.H p ≠ none ∧ W.H c ≠ none := by
  obtain ⟨a, m, cs, h1, h2, _⟩ := s.ex
  exact ⟨by rw [h1]; exact (fun z => by cases z), by rw [h2]; exact (fun z => by cases z)⟩
theorem St.nt {W : Wd} {p c : Addr} (s : St W p c) : Nt W.H p ∧ Nt W.H c := by
  obtain ⟨a, m, cs, h1, h2, _⟩ := s.ex
  exact ⟨.l h1, .l h2⟩
theorem St.off {S : List Addr} {W W' : Wd} {p c : Addr} (s : St W p c) (g : Md S W W') (hp : p ∉ S) (hc : c ∉ S) : St W' p c := by
  obtain ⟨a, m, cs, h1, h2, r⟩ := id s.ex
  exact s.keep ((g.o p _ hp h1).trans h1.symm) ((g.o c _ hc h2).trans h2.symm) (g.m p s.nt.1) (g.m c s.nt.2)
theorem St.g {W W' : Wd} {p c : Addr} (s : St W p c) (g : Grow W W') : St W' p c := s.off g (by simp) (by simp)
/-- the effect of drawing -/
def drw (p c : Addr) : Ef := ⟨[p, c], fun W => St W p c, fun W a s h => by
    have : a = p ∨ a = c := by simpa using h
    rcases this with e | e <;> rw [e]
    · exact s.nt.1
    · exact s.nt.2,
  fun W W' b h s => by
    have h1 := h p (by simp) s.nt.1
    have h2 := h c (by simp) s.nt.2
    exact s.keep h1.1 h2.1 h1.2 h2.2⟩

def sp__law_begun (K : Fg) : Sp := fun vs H Q _ => ∃ (W : Wd) (a : Addr) (ns : List Int), W.H = H ∧ vs = [.ref a] ∧ SqL K W.B a (ns.map V.int) ∧ ns.length ≤ 63 ∧
  ∀ p c W', Grow W W' → St W' p c → W.H p = none → W.H c = none → Q (.ref p) W'.H
theorem len__law_begun {K : Fg} {vs : List V} {H : Hp} {Q : VK} {E : XK} (h : sp__law_begun K vs H Q E) : vs.length = ["_law_script"].length := by
  obtain ⟨W, a, ns, _, rfl, _⟩ := h
  rfl
/-- _law_begun: the slots 0 _law_script, 1 _law_cells, 2 _law_cell -/
abbrev n__law_begun : List Str := ["_law_script", "_law_cells", "_law_cell"]
def t__law_begun (K : Fg) : TS := (tSeq (tAsg (tLc (iList K (tVar 0)) (gName 2) tYes (tCB rAbs (tCons (tVar 2) tNil)) [2]) (gName 1))
  (tSeq (tIfS (tTest (tOp (rEqT K false) (tVar 1) (tLst tNil))) (tAsg (tLst (tCons (tC (.int 1)) tNil)) (gName 1)) tNext)
  (tRet (tLst (tCons (tVar 1) (tCons (tC (.int 0)) (tCons (tC (.int 1)) tNil)))))))
def sp__law_draw (K : Fg) : Sp := fun vs H Q _ => ∃ (W : Wd) (p c : Addr) (n : Int), W.H = H ∧ vs = [.ref p, .int n] ∧ St W p c ∧ 0 < n ∧ n < 1073741824 ∧
  ∀ r W', 0 ≤ r → r < n → Md [p, c] W W' → St W' p c → Q (.int r) W'.H
theorem len__law_draw {K : Fg} {vs : List V} {H : Hp} {Q : VK} {E : XK} (h : sp__law_draw K vs H Q E) : vs.length = ["_law_state", "_law_number"].length := by
  obtain ⟨W, p, c, n, _, rfl, _⟩ := h
  rfl
/-- _law_draw: the slots 0 _law_state, 1 _law_many, 2 _law_cells, 3 _law_at, 4 _law_cell -/
abbrev n__law_draw : List Str := ["_law_state", "_law_many", "_law_cells", "_law_at", "_law_cell"]
def t__law_draw (K : Fg) : TS := (tSeq (tAsg (tOp (rIxL K) (tVar 0) (tC (.int 0))) (gName 2))
  (tSeq (tAsg (tOp oMod (tOp (rIxL K) (tVar 0) (tC (.int 1))) (tCB (rLen K) (tCons (tVar 2) tNil))) (gName 3))
  (tSeq (tAsg (tOp (rIxL K) (tVar 2) (tVar 3)) (gName 4))
  (tSeq (tIfS (tTest (tOp oGe (tVar 4) (tOp oPow (tC (.int 10)) (tC (.int 18))))) (tSeq (tAsg (tOp oDiv (tVar 4) (tVar 1)) (gSub (tVar 2) (tVar 3) rSetL))
  (tRet (tOp oMod (tVar 4) (tVar 1)))) tNext)
  (tSeq (tAsg (tOp oAdd (tOp (rIxL K) (tVar 0) (tC (.int 1))) (tC (.int 1))) (gSub (tVar 0) (tC (.int 1)) rSetL))
  (tSeq (tAsg (tOp oMod (tOp oAdd (tOp oAdd (tOp oMul (tOp (rIxL K) (tVar 0) (tC (.int 2))) (tC (.int 48271))) (tVar 4)) (tC (.int 12345))) (tC (.int 2147483647))) (gSub (tVar 0) (tC (.int 2)) rSetL))
  (tRet (tOp oMod (tOp oDiv (tOp oMod (tOp oMul (tOp (rIxL K) (tVar 0) (tC (.int 2))) (tOp (rIxL K) (tVar 0) (tC (.int 2)))) (tC (.int 2147483629))) (tC (.int 16))) (tVar 1)))))))))
def sp__law_pick (K : Fg) : Sp := fun vs H Q _ => ∃ (W : Wd) (p c b : Addr) (ys : List V), W.H = H ∧ vs = [.ref p, .ref b] ∧ St W p c ∧ W.B b = some (.lst ys) ∧ ys ≠ [] ∧ ys.length < 100000 ∧
  ∀ y W', y ∈ ys → Md [p, c] W W' → St W' p c → Q y W'.H
theorem len__law_pick {K : Fg} {vs : List V} {H : Hp} {Q : VK} {E : XK} (h : sp__law_pick K vs H Q E) : vs.length = ["_law_state", "_law_some"].length := by
  obtain ⟨W, p, c, b, ys, _, rfl, _⟩ := h
  rfl
/-- _law_pick: the slots 0 _law_state, 1 _law_some -/
abbrev n__law_pick : List Str := ["_law_state", "_law_some"]
def t__law_pick (K : Fg) : TS := (tRet (tOp (rIxL K) (tVar 1) (tCall (sp__law_draw K) [] E0 (tCons (tVar 0) (tCons (tCB (rLen K) (tCons (tVar 1) tNil)) tNil)))))
theorem ev_draw {K : Fg} {W : Wd} {σ : SS} {te : TE} {i : Nat} {p c : Addr} {n : Int} (h1 : σ[i]? = some (some (.ref p))) (hn : EvR (drw p c) K te σ W n) (h0 : 0 < n) (h2 : n < 1073741824) :
    EvP (drw p c) (tCall (sp__law_draw K) [] E0 (tCons (tVar i) (tCons te tNil))) σ W (fun v _ => ∃ r, v = .int r ∧ 0 ≤ r ∧ r < n) := fun W1 g1 Q k =>
  ⟨_, h1, hn W1 g1 _ fun u W2 g2 r => ⟨W2, p, c, n, rfl, by rw [show u = _ from r]; rfl, (show St W2 p c from g2.i), h0, h2, fun r W3 a b g s => k _ W3 (g2.trans ⟨g, s⟩) ⟨r, rfl, a, b⟩⟩⟩
section
variable {K : Fg} {vs : List V} {H : Hp} {Q : VK} {E : XK}
theorem sq_items {a : Addr} {W : Wd} {ns : List Int} (h : SqL K W.B a (ns.map V.int)) {σ : SS} {i : Nat} (hv : σ[i]? = some (some (.ref a))) : EvJ pur K (iList K (tVar i)) σ W ns := fun W1 g1 R k => by
  have s : ∀ W', On W W' → SqL K W'.H a (ns.map V.int) := fun W' o => W'.sub.l ((exExt o.b).l h)
  refine ⟨.ref a, hv, a, rfl, ⟨_, s W1 g1.on⟩, k (Itl K a) W1 g1.rf ⟨fun i W' o hi => ?_, fun i W' v H'' o hi ⟨e1, e2⟩ => ?_, fun i W' o hi => ?_⟩⟩
  · exact ⟨_, V.int ns[i], s W' (g1.on.trans o), by simp [hi]⟩
  · have := e2 _ (s W' (g1.on.trans o))
    rw [List.getElem?_map] at this
    cases q : ns[i]? with
    | none => rw [q] at this; cases this
    | some z =>
      rw [q] at this
      exact ⟨z, W', e1.symm, .refl _ _, rfl, (Option.some.inj this).symm⟩
  · exact ⟨_, s W' (g1.on.trans o), by simpa using hi⟩
theorem rd__law_begun (h : sp__law_begun K vs H Q E) : t__law_begun K { nx := fun _ H' => Q .non H', rt := Q } (start n__law_begun vs) H := by
  obtain ⟨W, a, ns, rfl, rfl, hs, hl, k⟩ := h
  show t__law_begun K _ [some (.ref a), none, none] W.H
  -- cells = [abs(cell) for cell in script]
  refine q_asgN (ε := pur) (xs := ns.map fun n => if n < 0 then -n else n) (en_lcN (sq_items hs rfl).i (fun x v W' hx g r => ev_cb1 (ev_var rfl r) rc_abs) (by omega)) trivial fun p1 vs1 W1 g1 f1 n1 e1 r1 => ?_
  have ei1 : vs1 = (ns.map fun n => if n < 0 then -n else n).map V.int := reps_int r1
  subst ei1
  have fin : ∀ (W2 : Wd) (cs : List Int) (c : Addr), Grow W W2 → W.H c = none → W2.B c = none → W2.H c = some (.lst (cs.map V.int)) → cs ≠ [] → (∀ x ∈ cs, 0 ≤ x) →
      tRet (tLst (tCons (tVar 1) (tCons (tC (V.int 0)) (tCons (tC (V.int 1)) tNil)))) { nx := fun _ H' => Q .non H', rt := Q } [some (.ref a), some (.ref c), none] W2.H := fun W2 cs c g f n e hne hp => by
    refine ⟨_, rfl, Evl.sz_of (by show 3 ≤ 100000; decide), fun p hp' => ?_⟩
    have npc : p ≠ c := fun z => by rw [z, e] at hp'; cases hp'
    exact k p c (W2.put p _ (W2.free hp')) (g.trans (W2.grow_put hp')) ⟨W2.free hp', n, npc, 0, 1, cs, upd_same, (upd_ne npc.symm).trans e, hne, hp, by decide, by decide, by decide⟩ (by
      cases q : W.H p with
      | none => rfl
      | some o => exact absurd hp' (g.d p (by rw [q]; exact fun z => by cases z))) f
  -- if cells == []
  refine ⟨_, rfl, Evl.sz_of (by show 0 ≤ 100000; decide), fun pe hpe => ⟨List Int, inferInstance, inferInstance, ns.map fun n => if n < 0 then -n else n, [], ?_, ?_, by decide, _, rfl, ?_⟩⟩
  · have ne : p1 ≠ pe := fun z => by rw [z, hpe] at e1; cases e1
    exact PyD.dp (α := List Int) ⟨p1, _, rfl, (upd_ne ne).trans e1, int_reps _⟩
  · exact PyD.dp (α := List Int) ⟨pe, _, rfl, upd_same, .nil⟩
  · have g2 : Grow W1 (W1.put pe (.lst []) (W1.free hpe)) := W1.grow_put hpe
    have m2 := g2.mut (by simp) e1 n1
    refine ite2 (fun hb => ?_) (fun hb => ?_)
    · refine ⟨Evl.sz_of (by show 1 ≤ 100000; decide), fun p hp => ?_⟩
      have hp0 : (W1.put pe (.lst []) (W1.free hpe)).H p = none := hp
      refine fin ((W1.put pe (.lst []) (W1.free hpe)).put p (.lst [.int 1]) (Wd.free _ hp0)) [1] p ((g1.pure.trans g2).trans (Wd.grow_put _ hp0)) ?_ (Wd.free (W1.put pe (.lst []) (W1.free hpe)) hp0) upd_same (by simp) (by simp)
      cases q : W.H p with
      | none => rfl
      | some o => exact absurd hp0 ((g1.pure.trans g2).d p (by rw [q]; exact fun z => by cases z))
    · refine fin (W1.put pe (.lst []) (W1.free hpe)) _ p1 (g1.pure.trans g2) f1 m2.2 m2.1 (of_decide_eq_false (by simpa using hb)) ?_
      intro x hx
      simp only [List.mem_map] at hx
      obtain ⟨n, _, rfl⟩ := hx
      split <;> omega
theorem rd__law_draw (h : sp__law_draw K vs H Q E) : t__law_draw K { nx := fun _ H' => Q .non H', rt := Q } (start n__law_draw vs) H := by
  obtain ⟨W, p, c, n, rfl, rfl, s, hn, hn2, k⟩ := h
  obtain ⟨a, m, cs, h1, h2, hne, hpos, ha, hm, hm2⟩ := id s.ex
  show t__law_draw K _ [some (.ref p), some (.int n), none, none, none] W.H
  have hlen : 0 < cs.length := List.length_pos_iff.mpr hne
  have hlenI : (0 : Int) < (cs.length : Int) := by omega
  obtain ⟨j, hj, hj2⟩ : ∃ j : Nat, a % (cs.length : Int) = (j : Int) ∧ j < cs.length := by
    have e1 := Int.emod_nonneg a (show (cs.length : Int) ≠ 0 by omega)
    have e2 := Int.emod_lt_of_pos a hlenI
    exact ⟨(a % (cs.length : Int)).toNat, by omega, by omega⟩
  have hx : (cs.map V.int)[j]? = some (V.int cs[j]) := by simp [hj2]
  have hx0 : 0 ≤ cs[j] := hpos _ (List.getElem_mem _)
  -- cells = state[0]; at = state[1] % len(cells); cell = cells[at]
  refine ⟨_, rfl, p, _, 0, _, rfl, rfl, SqL.of h1, rfl, ?_⟩
  refine ⟨_, rfl, p, _, 1, _, rfl, rfl, SqL.of h1, rfl, _, rfl, c, _, rfl, .inl (SqL.of h2), _, _, rfl, rfl, by rw [List.length_map]; exact hlenI, ?_⟩
  simp only [List.length_map, hj, gName]
  refine ⟨_, rfl, _, rfl, c, _, _, _, rfl, rfl, SqL.of h2, atI_nat hx, ?_⟩
  -- if cell >= 10 ** 18
  refine ⟨_, rfl, _, _, rfl, rfl, ⟨by decide, by decide, by decide⟩, _, _, rfl, rfl, _, rfl, ?_⟩
  refine ite2 (fun hc => ?_) (fun hc => ?_)
  · refine ⟨_, rfl, _, rfl, _, _, rfl, rfl, ⟨hn, hn2⟩, _, rfl, _, rfl, c, _, _, j, rfl, rfl, h2, by rw [List.length_map]; exact Evl.ixN_nat hj2, ?_⟩
    refine ⟨_, rfl, _, rfl, _, _, rfl, rfl, hn, ?_⟩
    refine k _ (W.put c _ s.bc) (Int.emod_nonneg _ (by omega)) (Int.emod_lt_of_pos _ hn) ((md_put s.bc).mono (by intro x; simp; exact fun h => .inr h)) ⟨s.bp, s.bc, s.ne, a, m, cs.set j (cs[j] / n), ?_, ?_, ?_, ?_, ha, hm, hm2⟩
    · show upd W.H c _ p = _
      rw [upd_ne s.ne]; exact h1
    · show upd W.H c _ c = _
      rw [upd_same, List.map_set]
    · intro z
      apply hne
      have : (cs.set j (cs[j] / n)).length = 0 := by rw [z]; rfl
      rw [List.length_set] at this
      exact List.length_eq_zero_iff.mp this
    · intro x hx'
      rcases List.mem_or_eq_of_mem_set hx' with z | z
      · exact hpos x z
      · rw [z]; exact Int.ediv_nonneg hx0 (by omega)
  · refine ⟨_, rfl, p, _, 1, _, rfl, rfl, SqL.of h1, rfl, _, _, rfl, rfl, _, rfl, p, _, _, 1, rfl, rfl, h1, rfl, ?_⟩
    refine ⟨_, rfl, p, _, 2, _, rfl, rfl, SqL.of upd_same, rfl, _, _, rfl, rfl, .inl ⟨by omega, by omega⟩, _, rfl, _, _, rfl, rfl, _, _, rfl, rfl, _, _, rfl, rfl, by show (0 : Int) < 2147483647; decide, _, rfl, p, _, _, 2, rfl, rfl, upd_same, rfl, ?_⟩
    have m0 := Int.emod_nonneg (m * 48271 + cs[j] + 12345) (show (2147483647 : Int) ≠ 0 by decide)
    have m1 := Int.emod_lt_of_pos (m * 48271 + cs[j] + 12345) (show (0 : Int) < 2147483647 by decide)
    refine ⟨_, rfl, p, _, 2, _, rfl, rfl, SqL.of upd_same, rfl, _, rfl, p, _, 2, _, rfl, rfl, SqL.of upd_same, rfl, _, _, rfl, rfl, .inl ⟨by omega, by omega⟩, _, _, rfl, rfl, by show (0 : Int) < 2147483629; decide, _, _, rfl, rfl, ⟨by decide, by decide⟩, _, rfl, _, _, rfl, rfl, hn, ?_⟩
    rw [upd_upd]
    refine k _ (W.put p _ s.bp) (Int.emod_nonneg _ (by omega)) (Int.emod_lt_of_pos _ hn) ((md_put s.bp).mono (by intro x; simp; exact fun h => .inl h)) ⟨s.bp, s.bc, s.ne, a + 1, _, cs, upd_same, ?_, hne, hpos, by omega, m0, m1⟩
    show upd W.H p _ c = _
    rw [upd_ne (Ne.symm s.ne)]; exact h2
theorem rd__law_pick (h : sp__law_pick K vs H Q E) : t__law_pick K { nx := fun _ H' => Q .non H', rt := Q } (start n__law_pick vs) H := by
  obtain ⟨W, p, c, b, ys, rfl, rfl, s, hb, hne, hl, k⟩ := h
  have hlen : 0 < ys.length := List.length_pos_iff.mpr hne
  have hbH : W.H b = some (.lst ys) := W.sub.el hb
  refine ⟨_, rfl, _, rfl, _, rfl, b, _, rfl, .inl (SqL.of hbH), W, p, c, _, rfl, rfl, s, by omega, by omega, fun r W' h0 h1 g s' => ?_⟩
  have hb' : W'.H b = some (.lst ys) := W'.sub.el (g.b _ _ hb)
  obtain ⟨j, rfl⟩ : ∃ j : Nat, r = (j : Int) := ⟨r.toNat, by omega⟩
  have hj : j < ys.length := by omega
  exact ⟨b, ys, j, ys[j], rfl, rfl, SqL.of hb', atI_nat (by simp [hj]), k _ W' (List.getElem_mem _) g s'⟩
end
end B
namespace B
def longerN (rows : List (List Nat)) : List (List Nat) := rows.map (· ++ [0]) ++ rows.map (· ++ [1])
def subsN : Nat → List (List Nat)
  | 0 => [[]]
  | n + 1 => longerN (subsN n)
def subsetsN (many size : Nat) : List (List Nat) := (subsN many).filter fun r => Nat.beq r.sum size
def addN : List Nat → List Nat → List Nat
  | a :: x, b :: y => (a + b) :: addN x y
  | _, _ => []
def sumsN (many : Nat) (lots : List Nat) : List (List Nat) := lots.foldl (fun found size => found.flatMap fun row => (subsetsN many size).map (addN row)) [List.replicate many 0]
def rowsN (most : Nat) : Nat → List (List Nat)
  | 0 => [[]]
  | n + 1 => (rowsN most n).flatMap fun r => (List.range (most + 1)).map fun k => r ++ [k]
def reachN (lots : List Nat) (m : Nat) : Nat := (lots.map fun s => if Nat.ble s m then s else m).sum
def insN (a : Nat) : List Nat → List Nat
  | [] => [a]
  | b :: r => if Nat.ble b a then a :: b :: r else b :: insN a r
def sortN (r : List Nat) : List Nat := r.foldr insN []
def fits (lots : List Nat) : Nat → Nat → List Nat → Bool
  | _, _, [] => true
  | at', tot, a :: r => if Nat.ble (tot + a) (reachN lots (at' + 1)) then fits lots (at' + 1) (tot + a) r else false
def holdsN (lots : List Nat) (row : List Nat) : Bool := Nat.beq row.sum (reachN lots 12) && fits lots 0 0 row
def eqN : List Nat → List Nat → Bool
  | [], [] => true
  | a :: x, b :: y => Nat.beq a b && eqN x y
  | _, _ => false
def inN (r : List Nat) (l : List (List Nat)) : Bool := l.any (eqN r)
def okN (many : Nat) (lots : List Nat) : Bool := (rowsN (lots.length + 1) many).all fun row => (holdsN lots (sortN row) == inN row (sumsN many lots)) && (holdsN lots (sortN (row.filter fun k => Nat.blt 0 k)) == inN row (sumsN many lots))
def listsN : Nat → List (List Nat)
  | 0 => [[]]
  | n + 1 => (listsN n).flatMap fun r => [1, 2, 3, 4].map fun k => k :: r
def allN (many len : Nat) : Bool := (listsN len).all (okN many)
set_option maxHeartbeats 0
theorem a10 : allN 1 0 = true := by decide +kernel
theorem a11 : allN 1 1 = true := by decide +kernel
theorem a12 : allN 1 2 = true := by decide +kernel
theorem a13 : allN 1 3 = true := by decide +kernel
theorem a14 : allN 1 4 = true := by decide +kernel
theorem a20 : allN 2 0 = true := by decide +kernel
theorem a21 : allN 2 1 = true := by decide +kernel
theorem a22 : allN 2 2 = true := by decide +kernel
theorem a23 : allN 2 3 = true := by decide +kernel
theorem a24 : allN 2 4 = true := by decide +kernel
theorem a30 : allN 3 0 = true := by decide +kernel
theorem a31 : allN 3 1 = true := by decide +kernel
theorem a32 : allN 3 2 = true := by decide +kernel
theorem a33 : allN 3 3 = true := by decide +kernel
theorem a40 : allN 4 0 = true := by decide +kernel
theorem a41 : allN 4 1 = true := by decide +kernel
theorem a42 : allN 4 2 = true := by decide +kernel

theorem mem_listsN : ∀ (lots : List Nat), (∀ s ∈ lots, 1 ≤ s ∧ s ≤ 4) → lots ∈ listsN lots.length
  | [], _ => List.mem_singleton.mpr rfl
  | a :: r, h => by
    have ih := mem_listsN r fun s hs => h s (List.mem_cons_of_mem _ hs)
    have ha := h a List.mem_cons_self
    show a :: r ∈ (listsN r.length).flatMap fun r => [1, 2, 3, 4].map fun k => k :: r
    rw [List.mem_flatMap]
    refine ⟨r, ih, ?_⟩
    have : a = 1 ∨ a = 2 ∨ a = 3 ∨ a = 4 := by omega
    rcases this with e | e | e | e <;> subst e <;> simp
def mostN (many : Nat) : Nat := if many ≤ 2 then 4 else if many = 3 then 3 else 2
theorem all_ok {many : Nat} {lots : List Nat} (h1 : 1 ≤ many) (h2 : many ≤ 4) (hl : lots.length ≤ mostN many) (h : ∀ s ∈ lots, 1 ≤ s ∧ s ≤ 4) : okN many lots = true := by
  have key : ∀ n, lots.length = n → allN many n = true → okN many lots = true := fun n e a => List.all_eq_true.mp a lots (e ▸ mem_listsN lots h)
  unfold mostN at hl
  have hm : many = 1 ∨ many = 2 ∨ many = 3 ∨ many = 4 := by omega
  have hn : ∃ n, lots.length = n := ⟨_, rfl⟩
  obtain ⟨n, e⟩ := hn
  refine key n e ?_
  rw [e] at hl
  clear key e h
  rcases hm with q | q | q | q <;> subst q <;> simp at hl
  · have : n = 0 ∨ n = 1 ∨ n = 2 ∨ n = 3 ∨ n = 4 := by omega
    rcases this with q | q | q | q | q <;> subst q
    · exact a10
    · exact a11
    · exact a12
    · exact a13
    · exact a14
  · have : n = 0 ∨ n = 1 ∨ n = 2 ∨ n = 3 ∨ n = 4 := by omega
    rcases this with q | q | q | q | q <;> subst q
    · exact a20
    · exact a21
    · exact a22
    · exact a23
    · exact a24
  · have : n = 0 ∨ n = 1 ∨ n = 2 ∨ n = 3 := by omega
    rcases this with q | q | q | q <;> subst q
    · exact a30
    · exact a31
    · exact a32
    · exact a33
  · have : n = 0 ∨ n = 1 ∨ n = 2 := by omega
    rcases this with q | q | q <;> subst q
    · exact a40
    · exact a41
    · exact a42
theorem eqN_iff : ∀ (a b : List Nat), eqN a b = true ↔ a = b
  | [], [] => by simp [eqN]
  | [], _ :: _ => by simp [eqN]
  | _ :: _, [] => by simp [eqN]
  | a :: x, b :: y => by
    simp only [eqN, Bool.and_eq_true, List.cons.injEq, eqN_iff x y, Nat.beq_eq]
theorem inN_iff {r : List Nat} {l : List (List Nat)} : inN r l = true ↔ r ∈ l := by
  unfold inN
  rw [List.any_eq_true]
  exact ⟨fun ⟨x, hx, e⟩ => (eqN_iff r x).mp e ▸ hx, fun h => ⟨r, h, (eqN_iff r r).mpr rfl⟩⟩
theorem ok_row {many : Nat} {lots row : List Nat} (h : okN many lots = true) (hr : row ∈ rowsN (lots.length + 1) many) : (holdsN lots (sortN row) = true ↔ row ∈ sumsN many lots) ∧ (holdsN lots (sortN (row.filter fun k => Nat.blt 0 k)) = true ↔ row ∈ sumsN many lots) := by
  have := List.all_eq_true.mp h row hr
  rw [Bool.and_eq_true, beq_iff_eq, beq_iff_eq] at this
  rw [this.1, this.2, inN_iff]
  exact ⟨.rfl, .rfl⟩
/-! ### sorting -/
theorem insN_perm (a : Nat) : ∀ l, (insN a l).Perm (a :: l)
  | [] => .refl _
  | b :: r => by
    unfold insN
    split
    · exact .refl _
    · exact ((insN_perm a r).cons b).trans (.swap a b r)
theorem sortN_perm : ∀ l, (sortN l).Perm l
  | [] => .refl _
  | a :: r => (insN_perm a _).trans ((sortN_perm r).cons a)
theorem insN_srt (a : Nat) : ∀ l : List Nat, l.Pairwise (· ≥ ·) → (insN a l).Pairwise (· ≥ ·)
  | [], _ => List.pairwise_singleton _ _
  | b :: r, h => by
    have h' := List.pairwise_cons.mp h
    unfold insN
    split
    · rename_i q
      have q' : b ≤ a := Nat.le_of_ble_eq_true q
      refine List.pairwise_cons.mpr ⟨fun x hx => ?_, h⟩
      rcases List.mem_cons.mp hx with e | e
      · rw [e]; exact q'
      · exact Nat.le_trans (h'.1 x e) q'
    · rename_i q
      have q' : a ≤ b := by
        have : ¬ b ≤ a := fun z => q (Nat.ble_eq_true_of_le z)
        omega
      refine List.pairwise_cons.mpr ⟨fun x hx => ?_, insN_srt a r h'.2⟩
      rcases List.mem_cons.mp ((insN_perm a r).mem_iff.mp hx) with e | e
      · rw [e]; exact q'
      · exact h'.1 x e
theorem sortN_srt : ∀ l, (sortN l).Pairwise (· ≥ ·)
  | [] => .nil
  | a :: r => insN_srt a _ (sortN_srt r)
/-! ### how long -/
theorem subsN_len : ∀ n, (subsN n).length = 2 ^ n
  | 0 => rfl
  | n + 1 => by
    show (longerN (subsN n)).length = _
    unfold longerN
    rw [List.length_append, List.length_map, List.length_map, subsN_len n, Nat.pow_succ]
    omega
theorem subsN_each : ∀ n, ∀ r ∈ subsN n, r.length = n
  | 0, r, h => by
    rw [List.mem_singleton.mp h]
    rfl
  | n + 1, r, h => by
    have h' : r ∈ (subsN n).map (· ++ [0]) ++ (subsN n).map (· ++ [1]) := h
    rw [List.mem_append, List.mem_map, List.mem_map] at h'
    rcases h' with ⟨x, hx, e⟩ | ⟨x, hx, e⟩ <;> rw [← e, List.length_append, subsN_each n x hx] <;> rfl
theorem rowsN_len (most : Nat) : ∀ n, (rowsN most n).length = (most + 1) ^ n
  | 0 => rfl
  | n + 1 => by
    show ((rowsN most n).flatMap fun r => (List.range (most + 1)).map fun k => r ++ [k]).length = _
    rw [List.length_flatMap]
    have : ∀ l : List (List Nat), (l.map fun r => ((List.range (most + 1)).map fun k => r ++ [k]).length).sum = l.length * (most + 1) := by
      intro l
      induction l with
      | nil => simp
      | cons a l ih => rw [List.map_cons, List.sum_cons, ih, List.length_map, List.length_range, List.length_cons, Nat.succ_mul]; omega
    rw [this, rowsN_len most n, Nat.pow_succ]
theorem rowsN_each (most : Nat) : ∀ n, ∀ r ∈ rowsN most n, r.length = n
  | 0, r, h => by
    rw [List.mem_singleton.mp h]
    rfl
  | n + 1, r, h => by
    have h' : r ∈ (rowsN most n).flatMap fun r => (List.range (most + 1)).map fun k => r ++ [k] := h
    rw [List.mem_flatMap] at h'
    obtain ⟨x, hx, e⟩ := h'
    rw [List.mem_map] at e
    obtain ⟨k, _, e⟩ := e
    rw [← e, List.length_append, rowsN_each most n x hx]
    rfl
end B
/-! law_k21: what it computes -/
namespace B
open PySem L2
open PySem.W (Tup T3 T4 Datum DatumOrd)
open Evl (Ex)
def reachF (kv : List (Int × Int)) (m : Int) : Int := (kv.map fun q => q.2 * (if m < q.1 then m else q.1)).sum
def sp_reach (K : Fg) : Sp := fun vs H Q _ => ∃ (W : Wd) (v : V) (kv : List (Int × Int)) (m : Int), W.H = H ∧ vs = [v, .int m] ∧ DictAt K W v ⟨kv⟩ ∧ (∀ q ∈ kv, 0 ≤ q.2 ∧ q.2 ≤ 1000000000) ∧ kv.length ≤ 100000 ∧
  ∀ W', Grow W W' → Q (.int (reachF kv m)) W'.H
theorem len_reach {K : Fg} {vs : List V} {H : Hp} {Q : VK} {E : XK} (h : sp_reach K vs H Q E) : vs.length = ["sizes", "many"].length := by
  obtain ⟨W, v, kv, m, _, rfl, _⟩ := h
  rfl
/-- reach: the slots 0 sizes, 1 many, 2 size, 3 times -/
abbrev n_reach : List Str := ["sizes", "many", "size", "times"]
def t_reach (K : Fg) : TS := (tRet (tCB (rSum K) (tCons (tLockE (tLc (iItems (tVar 0)) (gPair K 2 3) tYes (tOp oMul (tVar 3) (tCB rMin2 (tCons (tVar 2) (tCons (tVar 1) tNil)))) [2, 3])) tNil)))

def ups (r : List Nat) : List Int := r.map fun (k : Nat) => (k : Int)
def tupN (r : List Nat) : Tup Int := ⟨ups r⟩
theorem ups_sum : ∀ r : List Nat, (ups r).sum = (r.sum : Int)
  | [] => rfl
  | a :: r => by
    show (a : Int) + (ups r).sum = ((a :: r).sum : Int)
    rw [ups_sum r, List.sum_cons]
    omega
theorem ups_app (a b : List Nat) : ups (a ++ b) = ups a ++ ups b := List.map_append
theorem ups_len (a : List Nat) : (ups a).length = a.length := List.length_map _
theorem ups_inj {a b : List Nat} (h : ups a = ups b) : a = b := by
  induction a generalizing b with
  | nil => cases b with
    | nil => rfl
    | cons y b => cases h
  | cons x a ih =>
    cases b with
    | nil => cases h
    | cons y b =>
      have h' : (x : Int) :: ups a = (y : Int) :: ups b := h
      injection h' with h1 h2
      rw [ih h2, Int.ofNat.inj h1]
theorem tupN_inj {a b : List Nat} (h : tupN a = tupN b) : a = b := ups_inj (congrArg Tup.items h)
def sp__law_longer (K : Fg) : Sp := fun vs H Q _ => ∃ (W : Wd) (v : V) (rows : List (List Nat)), W.H = H ∧ vs = [v] ∧ rep K W.B v (rows.map tupN) ∧ rows.length ≤ 10000 ∧ (∀ r ∈ rows, r.length ≤ 1000) ∧
  ∀ u W', Grow W W' → rep K W'.B u ((longerN rows).map tupN) → Q u W'.H
theorem len__law_longer {K : Fg} {vs : List V} {H : Hp} {Q : VK} {E : XK} (h : sp__law_longer K vs H Q E) : vs.length = ["_law_rows_here"].length := by
  obtain ⟨W, v, rows, _, rfl, _⟩ := h
  rfl
/-- _law_longer: the slots 0 _law_rows_here, 1 _law_row -/
abbrev n__law_longer : List Str := ["_law_rows_here", "_law_row"]
def t__law_longer (K : Fg) : TS := (tRet (tOp rCat (tLc (iList K (tVar 0)) (gName 1) tYes (tOp (rCatA K) (tVar 1) (tTup (tCons (tC (.int 0)) tNil))) [1]) (tLc (iList K (tVar 0)) (gName 1) tYes (tOp (rCatA K) (tVar 1) (tTup (tCons (tC (.int 1)) tNil))) [1])))
def sp__law_subsets (K : Fg) : Sp := fun vs H Q _ => ∃ (W : Wd) (many size : Nat), W.H = H ∧ vs = [.int many, .int size] ∧ many ≤ 6 ∧
  ∀ u W', Grow W W' → rep K W'.B u ((subsetsN many size).map tupN) → Q u W'.H
theorem len__law_subsets {K : Fg} {vs : List V} {H : Hp} {Q : VK} {E : XK} (h : sp__law_subsets K vs H Q E) : vs.length = ["_law_many", "_law_size"].length := by
  obtain ⟨W, m, s, _, rfl, _⟩ := h
  rfl
/-- _law_subsets: the slots 0 _law_many, 1 _law_size, 2 _law_found, 3 _law_k, 4 _law_row -/
abbrev n__law_subsets : List Str := ["_law_many", "_law_size", "_law_found", "_law_k", "_law_row"]
def t__law_subsets (K : Fg) : TS := (tSeq (tAsg (tLst (tCons (tTup tNil) tNil)) (gName 2))
  (tSeq (tFor (iRng1 (tCons (tVar 0) tNil)) (gName 3)
  (tAsg (tCall (sp__law_longer K) [] E0 (tCons (tVar 2) tNil)) (gName 2)))
  (tRet (tLc (iList K (tVar 2)) (gName 4) (tTest (tOp rEq (tCB (rSumT K) (tCons (tVar 4) tNil)) (tVar 1))) (tVar 4) [4]))))
def sp__law_sums (K : Fg) : Sp := fun vs H Q _ => ∃ (W : Wd) (many : Nat) (v : V) (lots : List Nat), W.H = H ∧ vs = [.int many, v] ∧ rep K W.B v (ups lots) ∧ 1 ≤ many ∧ many ≤ 4 ∧ lots.length ≤ 4 ∧
  ∀ u W' (rows : List (List Nat)), (∀ r, r ∈ rows ↔ r ∈ sumsN many lots) → Grow W W' → rep K W'.B u (rows.map tupN) → Q u W'.H
theorem len__law_sums {K : Fg} {vs : List V} {H : Hp} {Q : VK} {E : XK} (h : sp__law_sums K vs H Q E) : vs.length = ["_law_many", "_law_lots"].length := by
  obtain ⟨W, m, v, l, _, rfl, _⟩ := h
  rfl
/-- _law_sums: the slots 0 _law_many, 1 _law_lots, 2 _law_found, 3 _law_size, 4 _law_later, 5 _law_row, 6 _law_some, 7 _law_a, 8 _law_b -/
abbrev n__law_sums : List Str := ["_law_many", "_law_lots", "_law_found", "_law_size", "_law_later", "_law_row", "_law_some", "_law_a", "_law_b"]
def t__law_sums (K : Fg) : TS := (tSeq (tAsg (tLst (tCons (tOp (rRepT1 K) (tTup (tCons (tC (.int 0)) tNil)) (tVar 0)) tNil)) (gName 2))
  (tSeq (tFor (iList K (tVar 1)) (gName 3)
  (tSeq (tAsg tDNewT (gName 4))
  (tSeq (tFor (iList K (tVar 2)) (gName 5)
  (tFor (iList K (tCall (sp__law_subsets K) [] E0 (tCons (tVar 0) (tCons (tVar 3) tNil)))) (gName 6)
  (sDPut (tVar 4) (tCB (rTupleO K) (tCons (tLc (RZ.iZipA K (tCons (tVar 5) (tCons (tVar 6) tNil))) (gPair K 7 8) tYes (tOp oAdd (tVar 7) (tVar 8)) [7, 8]) tNil)) (tC (.bl true)))))
  (tAsg (tCB rListDT (tCons (tVar 4) tNil)) (gName 2)))))
  (tRet (tVar 2))))
def sp__law_rows (K : Fg) : Sp := fun vs H Q _ => ∃ (W : Wd) (many most : Nat), W.H = H ∧ vs = [.int many, .int most] ∧ many ≤ 4 ∧ most ≤ 5 ∧
  ∀ u W', Grow W W' → rep K W'.B u ((rowsN most many).map tupN) → Q u W'.H
theorem len__law_rows {K : Fg} {vs : List V} {H : Hp} {Q : VK} {E : XK} (h : sp__law_rows K vs H Q E) : vs.length = ["_law_many", "_law_most"].length := by
  obtain ⟨W, m, s, _, rfl, _⟩ := h
  rfl
/-- _law_rows: the slots 0 _law_many, 1 _law_most, 2 _law_found, 3 _law_k, 4 _law_longer_here, 5 _law_row, 6 _law_number -/
abbrev n__law_rows : List Str := ["_law_many", "_law_most", "_law_found", "_law_k", "_law_longer_here", "_law_row", "_law_number"]
def t__law_rows (K : Fg) : TS := (tSeq (tAsg (tLst (tCons (tTup tNil) tNil)) (gName 2))
  (tSeq (tFor (iRng1 (tCons (tVar 0) tNil)) (gName 3)
  (tSeq (tAsg (tLst tNil) (gName 4))
  (tSeq (tFor (iList K (tVar 2)) (gName 5)
  (tAsg (tOp rCat (tVar 4) (tLc (iRng1 (tCons (tOp oAdd (tVar 1) (tC (.int 1))) tNil)) (gName 6) tYes (tOp (rCatA K) (tVar 5) (tTup (tCons (tVar 6) tNil))) [6])) (gName 4)))
  (tAsg (tVar 4) (gName 2)))))
  (tRet (tVar 2))))
def sp_holds (K : Fg) : Sp := fun vs H Q _ => ∃ (W : Wd) (v w : V) (kv : List (Int × Int)) (wv : List (Str × Int)) (lots row : List Nat), W.H = H ∧ vs = [v, w] ∧ DictAt K W v ⟨kv⟩ ∧ DictAt K W w ⟨wv⟩ ∧
  (∀ q ∈ kv, 0 ≤ q.2 ∧ q.2 ≤ 1000000000) ∧ kv.length ≤ 100000 ∧ (∀ m : Nat, reachF kv m = reachN lots m) ∧ wv.map (·.2) = ups row ∧ row.length ≤ 1000 ∧
  ∀ W', Grow W W' → Q (.bl (holdsN lots (sortN row))) W'.H
theorem len_holds {K : Fg} {vs : List V} {H : Hp} {Q : VK} {E : XK} (h : sp_holds K vs H Q E) : vs.length = ["sizes", "wanted"].length := by
  obtain ⟨W, v, w, kv, wv, l, r, _, rfl, _⟩ := h
  rfl
/-- holds: the slots 0 sizes, 1 wanted, 2 row, 3 together, 4 at, 5 number -/
abbrev n_holds : List Str := ["sizes", "wanted", "row", "together", "at", "number"]
def t_holds (K : Fg) : TS := (tSeq (tAsg (tCKw rSortedVR (tCons (tVals (tVar 1)) tNil) (tCons (tC (.bl true)) tNil)) (gName 2))
  (tSeq (tIfS (tTest (tOp rNe (tCB (rSum K) (tCons (tVar 2) tNil)) (tCall (sp_reach K) [] E0 (tCons (tVar 0) (tCons (tC (.int 12)) tNil))))) (tRet (tC (.bl false))) tNext)
  (tSeq (tAsg (tC (.int 0)) (gName 3))
  (tSeq (tFor (iEnum K (tCons (tVar 2) tNil)) (gPair K 4 5)
  (tSeq (tAug 3 (tVar 5) (ipI fun i j => i + j))
  (tIfS (tTest (tOp oGt (tVar 3) (tCall (sp_reach K) [] E0 (tCons (tVar 0) (tCons (tOp oAdd (tVar 4) (tC (.int 1))) tNil))))) (tRet (tC (.bl false))) tNext)))
  (tRet (tC (.bl true)))))))
def sp_law (K : Fg) : Sp := fun vs H Q _ => ∃ (a : Addr) (ns : List Int), vs = [.ref a] ∧ SqL K H a (ns.map V.int) ∧ ns.length ≤ 63 ∧ ∀ H', Q (.bl true) H'
theorem len_law {K : Fg} {vs : List V} {H : Hp} {Q : VK} {E : XK} (h : sp_law K vs H Q E) : vs.length = ["_law_script"].length := by
  obtain ⟨a, ns, rfl, _⟩ := h
  rfl
theorem law_in {K : Fg} {H : Hp} (a : Addr) (ns : List Int) (hl : ns.length ≤ 63) (hS : SqL K H a (ns.map V.int)) : sp_law K [.ref a] H (fun v _ => v = .bl true) (fun _ _ _ => False) := ⟨a, ns, rfl, hS, hl, fun _ => rfl⟩
/-- law: the slots 0 _law_script, 1 _law_state, 2 _law_turn, 3 _law_many, 4 _law_lots, 5 _law_k, 6 _law_sizes, 7 _law_size, 8 _law_sums_here, 9 _law_bare, 10 _law_row, 11 _law_wanted, 12 _law_name, 13 _law_number, 14 _law_found -/
abbrev n_law : List Str := ["_law_script", "_law_state", "_law_turn", "_law_many", "_law_lots", "_law_k", "_law_sizes", "_law_size", "_law_sums_here", "_law_bare", "_law_row", "_law_wanted", "_law_name", "_law_number", "_law_found"]
def t_law (K : Fg) : TS := (tSeq (tAsg (tCall (sp__law_begun K) [] E0 (tCons (tVar 0) tNil)) (gName 1))
  (tSeq (tFor (iRng1 (tCons (tC (.int 2)) tNil)) (gName 2)
  (tSeq (tAsg (tOp oAdd (tC (.int 1)) (tCall (sp__law_draw K) [] E0 (tCons (tVar 1) (tCons (tC (.int 4)) tNil)))) (gName 3))
  (tSeq (tAsg (tLc (iRng1 (tCons (tCall (sp__law_draw K) [] E0 (tCons (tVar 1) (tCons (tOp (rIxL K) (tLst (tCons (tC (.int 5)) (tCons (tC (.int 5)) (tCons (tC (.int 4)) (tCons (tC (.int 3)) tNil))))) (tOp oSub (tVar 3) (tC (.int 1)))) tNil))) tNil)) (gName 5) tYes (tOp oAdd (tC (.int 1)) (tCall (sp__law_draw K) [] E0 (tCons (tVar 1) (tCons (tC (.int 4)) tNil)))) [5]) (gName 4))
  (tSeq (tAsg tDNewK (gName 6))
  (tSeq (tFor (iList K (tVar 4)) (gName 7)
  (sDPut (tVar 6) (tVar 7) (tOp oAdd (tDGet2 (tVar 6) (tVar 7) (tC (.int 0))) (tC (.int 1)))))
  (tSeq (tIfS (tTest (tOp rEq (tCall (sp__law_draw K) [] E0 (tCons (tVar 1) (tCons (tC (.int 2)) tNil))) (tC (.int 0)))) (tDrop (tDSetd (tVar 6) (tOp oAdd (tC (.int 1)) (tCall (sp__law_draw K) [] E0 (tCons (tVar 1) (tCons (tC (.int 12)) tNil)))) (tC (.int 0)))) tNext)
  (tSeq (tPar 8 9 (tCons (tCall (sp__law_sums K) [] E0 (tCons (tVar 3) (tCons (tVar 4) tNil))) (tCons (tOp rEq (tCall (sp__law_draw K) [] E0 (tCons (tVar 1) (tCons (tC (.int 2)) tNil))) (tC (.int 0))) tNil)))
  (tFor (iList K (tCall (sp__law_rows K) [] E0 (tCons (tVar 3) (tCons (tOp oAdd (tCB (rLen K) (tCons (tVar 4) tNil)) (tC (.int 1))) tNil)))) (gName 10)
  (tSeq (tAsg tDNewK (gName 11))
  (tSeq (tFor (iZipS K (tCons (tC (.str "abcd")) (tCons (tVar 10) tNil))) (gPair K 12 13)
  (tIfS (tOr (tTest (tOp oGt (tVar 13) (tC (.int 0)))) (tNot (tB (tVar 9)))) (sDPut (tVar 11) (tVar 12) (tVar 13)) tNext))
  (tSeq (tAsg (tCall (sp_holds K) [] E0 (tCons (tVar 6) (tCons (tVar 11) tNil))) (gName 14))
  (tIfS (tOr (tNot (tB (tCB (rIsi K) (tCons (tVar 14) (tCons (tC (.ty "bool")) tNil))))) (tTest (tOp rNe (tVar 14) (tOp (rInTL K false) (tVar 10) (tVar 8))))) (tRet (tC (.bl false))) tNext))))))))))))
  (tRet (tC (.bl true)))))
section
variable {K : Fg} {vs : List V} {H : Hp} {Q : VK} {E : XK}
theorem rd_reach (h : sp_reach K vs H Q E) : t_reach K { nx := fun _ H' => Q .non H', rt := Q } (start n_reach vs) H := by
  obtain ⟨W, v, kv, m, rfl, rfl, ⟨a, ks, rfl, hB, hH, hr⟩, hb, hl, k⟩ := h
  refine s_ret (ε := pur) (x := reachF kv m) (K := K) (ev_cb1 (ev_lock hH fun WL lk => ev_lcP (K := K) (ei_items (ev_rvar rfl) lk.lk (KReps.mono (exExt lk.b) hr)) (fun x v u W' hx g r1 r2 => ?_) hl) rc_sum) trivial fun v W' g r => ?_
  · have := hb x hx
    exact ev_op (ev_var rfl r2) (ev_cb2 (ev_var rfl r1) (ev_var rfl (show rep K W'.B (V.int m) m from rfl)) rc_min2) (ro_I (.inl ⟨by omega, by omega⟩))
  · rw [show v = _ from r]; exact k W' g.pure
theorem rd__law_longer (h : sp__law_longer K vs H Q E) : t__law_longer K { nx := fun _ H' => Q .non H', rt := Q } (start n__law_longer vs) H := by
  obtain ⟨W, v, rows, rfl, rfl, rv, hl, hr, k⟩ := h
  have hc : ∀ (n : Nat) (W0 : Wd), On W W0 → EvR pur K (tLc (iList K (tVar 0)) (gName 1) tYes (tOp (rCatA K) (tVar 1) (tTup (tCons (tC (.int n)) tNil))) [1]) [some v, none] W0 (rows.map fun r => tupN (r ++ [n])) := fun n W0 o => by
    refine (ev_lcN (ε := pur) (K := K) (xs := rows.map tupN) (f := fun t => Tup.mk (t.items ++ [(n : Int)])) (ei_list (ev_var rfl (rep_on o rv))).i (fun x v' W' hx g rx => ?_) (by rw [List.length_map]; omega)).is ?_
    · obtain ⟨r, h1, rfl⟩ := List.mem_map.mp hx
      exact ev_op (ev_var rfl rx) (ev_tupN (ea_cons ev_int ea_nil) (by show 1 ≤ 100000; decide)) (ro_catT (by have := hr r h1; show (ups r).length + 1 ≤ 100000; rw [ups_len]; omega))
    · rw [List.map_map]
      refine List.map_congr_left fun r _ => ?_
      show Tup.mk (ups r ++ [(n : Int)]) = Tup.mk (ups (r ++ [n]))
      rw [ups_app]
      rfl
  refine s_ret (ε := pur) (x := (longerN rows).map tupN) (K := K) ?_ trivial fun u W' g r => k u W' g.pure r
  refine (ev_op (hc 0 W (.refl W)) (hc 1 W (.refl W)) (ro_cat (by rw [List.length_map, List.length_map]; omega))).is ?_
  unfold longerN
  rw [List.map_append, List.map_map, List.map_map]
  rfl
theorem rd__law_subsets (h : sp__law_subsets K vs H Q E) : t__law_subsets K { nx := fun _ H' => Q .non H', rt := Q } (start n__law_subsets vs) H := by
  obtain ⟨W, many, size, rfl, rfl, hm, k⟩ := h
  show t__law_subsets K _ [some (.int many), some (.int size), none, none, none] W.H
  have pow6 : ∀ i, i ≤ 6 → 2 ^ i ≤ 64 := fun i hi => Nat.le_trans (Nat.pow_le_pow_right (by decide) hi) (by decide)
  refine q_asg (ε := pur) (K := K) (x := (subsN 0).map tupN) (ev_lst (ea_cons (ev_tupN ea_nil (by decide)) ea_nil) (by decide)) trivial fun v W1 g1 r1 => ?_
  refine q_for (ε := pur) (K := K) (xs := rng 0 many) (ei_rng1 (n := (many : Int)) (ev_var rfl (show rep K W1.B (.int many) (many : Int) from rfl)) (by omega) (by omega)) trivial fun W2 g2 =>
    ⟨fun i σ W' => ∃ (v : V) (v3 : Option V), σ = [some (.int many), some (.int size), some v, v3, none] ∧ Grow W2 W' ∧ rep K W'.B v ((subsN i).map tupN), ⟨v, none, rfl, .refl _ _, rep_s g2 r1⟩, fun i σ' W' ⟨_, _, _, g, _⟩ => g.on, ?_, ?_⟩
  · rintro i x vx σ' W3' W3 hi hx ⟨v, v3, rfl, g3', r3⟩ g3 _
    rw [rng_len] at hi
    refine s_asg (ε := pur) (K := K) (x := (subsN (i + 1)).map tupN) (EvP.toR (ev_callP1 (ev_var rfl (rep_g g3 r3)).p fun u W4 g4 ru Q k => ⟨W4, u, subsN i, rfl, rfl, ru, ?_, ?_, fun w W5 g5 r5 => k w W5 (.of g5) r5⟩)) trivial fun w W5 g5 r5 => ⟨W5, rfl, w, _, rfl, (g3'.trans g3).trans g5.pure, r5⟩
    · rw [subsN_len]; have := pow6 i (by omega); omega
    · intro r hr; rw [subsN_each i r hr]; omega
  · rintro σ' W3 ⟨v, v3, rfl, g3, r3⟩
    rw [rng_len] at r3
    refine s_ret (ε := pur) (K := K) (x := (subsetsN many size).map tupN) ?_ trivial fun u W' g r => k u W' (((g1.pure.trans g2.pure).trans g3).trans g.pure) r
    refine (ev_lcNt (ε := pur) (K := K) (xs := (subsN many).map tupN) (p := fun t => decide (t.items.sum = (size : Int))) (f := id) (ei_list (ev_var rfl r3)).i (fun x v' W' hx g rx => et_test (ev_op (ev_cb1 (ev_var rfl rx) rc_sumT) (ev_var rfl (show rep K W'.B (.int size) (size : Int) from rfl)) ro_eqI)) (fun x v' W' hx _ g rx => ev_var rfl rx) (by rw [List.length_map, subsN_len]; have := pow6 many hm; omega)).is ?_
    unfold subsetsN
    rw [List.map_id, List.filter_map]
    congr 1
    refine List.filter_congr fun r _ => ?_
    show decide ((ups r).sum = (size : Int)) = Nat.beq r.sum size
    rw [ups_sum, Bool.eq_iff_iff, decide_eq_true_eq, Nat.beq_eq]
    omega
/-- the keys -/
def kN (r : List Nat) : List Key := ikey (ups r)
theorem kN_inj {a b : List Nat} (h : kN a = kN b) : a = b := by
  unfold kN ikey at h
  have h2 : ups a = ups b := by
    have := congrArg (List.map fun k : Key => match k with | .inl n => n | .inr _ => 0) h
    rw [List.map_map, List.map_map] at this
    have e : ((fun k : Key => match k with | .inl n => n | .inr _ => 0) ∘ (Sum.inl : Int → Key)) = id := rfl
    rw [e, List.map_id, List.map_id] at this
    exact this
  exact ups_inj h2
def tputs (ks : List (List Key)) (rs : List (List Nat)) : List (List Key) := rs.foldl (fun ks r => tput ks (kN r)) ks
theorem tputs_mem : ∀ (rs : List (List Nat)) (ks : List (List Key)) (k : List Key), k ∈ tputs ks rs ↔ k ∈ ks ∨ ∃ r ∈ rs, k = kN r
  | [], ks, k => by simp [tputs]
  | r :: rs, ks, k => by
    show k ∈ tputs (tput ks (kN r)) rs ↔ _
    rw [tputs_mem rs, tput_mem]
    simp only [List.mem_cons]
    constructor
    · rintro ((h | h) | ⟨x, hx, e⟩)
      · exact .inl h
      · exact .inr ⟨r, .inl rfl, h⟩
      · exact .inr ⟨x, .inr hx, e⟩
    · rintro (h | ⟨x, (e | hx), e2⟩)
      · exact .inl (.inl h)
      · exact .inl (.inr (by rw [e2, e]))
      · exact .inr ⟨x, hx, e2⟩
theorem tputs_len : ∀ (rs : List (List Nat)) (ks : List (List Key)), (tputs ks rs).length ≤ ks.length + rs.length
  | [], ks => by simp [tputs]
  | r :: rs, ks => by
    show (tputs (tput ks (kN r)) rs).length ≤ _
    have := tputs_len rs (tput ks (kN r))
    have := tput_len ks (kN r)
    rw [List.length_cons]
    omega
theorem tputs_app (ks : List (List Key)) (a b : List (List Nat)) : tputs ks (a ++ b) = tputs (tputs ks a) b := List.foldl_append
theorem keys_rows : ∀ (ks : List (List Key)), (∀ k ∈ ks, ∃ r, k = kN r) → ∃ rows : List (List Nat), ks = rows.map kN
  | [], _ => ⟨[], rfl⟩
  | k :: ks, h => by
    obtain ⟨r, e⟩ := h k List.mem_cons_self
    obtain ⟨rows, e2⟩ := keys_rows ks fun x hx => h x (List.mem_cons_of_mem _ hx)
    exact ⟨r :: rows, by rw [e, e2]; rfl⟩
theorem addN_ups : ∀ (a b : List Nat), ((ups a).zip (ups b)).map (fun p => p.1 + p.2) = ups (addN a b)
  | [], b => by cases b <;> rfl
  | a :: x, [] => rfl
  | a :: x, b :: y => by
    show ((a : Int) + (b : Int)) :: (((ups x).zip (ups y)).map fun p => p.1 + p.2) = ((a + b : Nat) : Int) :: ups (addN x y)
    rw [addN_ups x y]
    congr 1
theorem subsets_len (many size : Nat) (h : many ≤ 4) : (subsetsN many size).length ≤ 16 := by
  unfold subsetsN
  refine Nat.le_trans (List.length_filter_le _ _) ?_
  rw [subsN_len]
  exact Nat.le_trans (Nat.pow_le_pow_right (by decide) h) (by decide)
theorem addN_len : ∀ (a b : List Nat), (addN a b).length = min a.length b.length
  | [], b => by cases b <;> simp [addN]
  | a :: x, [] => by simp [addN]
  | a :: x, b :: y => by
    show (addN x y).length + 1 = _
    rw [addN_len x y, List.length_cons, List.length_cons]
    omega
theorem take_snoc {ζ : Type} {l : List ζ} {i : Nat} {x : ζ} (h : l[i]? = some x) : l.take (i + 1) = l.take i ++ [x] := by rw [List.take_add_one, h]; rfl
theorem map_get {ζ η : Type} {l : List ζ} {f : ζ → η} {i : Nat} {y : η} (h : (l.map f)[i]? = some y) : ∃ x, l[i]? = some x ∧ y = f x := by
  rw [List.getElem?_map] at h
  obtain ⟨x, h1, h2⟩ := Option.map_eq_some_iff.mp h
  exact ⟨x, h1, h2.symm⟩
theorem rd__law_sums (h : sp__law_sums K vs H Q E) : t__law_sums K { nx := fun _ H' => Q .non H', rt := Q } (start n__law_sums vs) H := by
  obtain ⟨W, many, v, lots, rfl, rfl, rv, hm1, hm4, hl, k⟩ := h
  show t__law_sums K _ [some (.int many), some v, none, none, none, none, none, none, none] W.H
  -- found = [(0,) * many]
  refine q_asg (ε := pur) (K := K) (x := [List.replicate many 0].map tupN) ((ev_lst (ea_cons (ev_op (ev_tupN (ea_cons ev_int ea_nil) (by decide)) (ev_var rfl (show rep K W.B (.int many) (many : Int) from rfl)) (ro_repT (by simp) (by omega) (by omega) (by show 1 ≤ 1000; decide))) ea_nil) (by show 1 ≤ 100000; decide)).is ?_) trivial fun vf W1 g1 rf => ?_
  · show [Tup.mk (List.replicate (many : Int).toNat [(0 : Int)]).flatten] = [tupN (List.replicate many 0)]
    have : (List.replicate many [(0 : Int)]).flatten = ups (List.replicate many 0) := by
      clear k
      induction many with
      | zero => rfl
      | succ n ih =>
        by_cases q : n = 0
        · subst q; rfl
        · rw [List.replicate_succ, List.flatten_cons, ih (by omega) (by omega), List.replicate_succ]
          rfl
    rw [Int.toNat_natCast, this]
    rfl
  -- for size in lots
  refine q_for (ε := pur) (K := K) (xs := ups lots) (ei_list (ev_var rfl (rep_s g1 rv))) trivial fun W2 g2 =>
    ⟨fun i σ W' => ∃ (vf : V) (v3 v4 v5 v6 : Option V) (rows : List (List Nat)), σ = [some (.int many), some v, some vf, v3, v4, v5, v6, none, none] ∧ Grow W2 W' ∧ rep K W'.B vf (rows.map tupN) ∧ (∀ r, r ∈ rows ↔ r ∈ sumsN many (lots.take i)) ∧ rows.length ≤ 16 ^ i ∧ ∀ r ∈ rows, r.length ≤ 4,
      ⟨vf, none, none, none, none, [List.replicate many 0], rfl, .refl _ _, rep_s g2 rf, fun r => by rw [List.take_zero]; exact .rfl, by show 1 ≤ 16 ^ 0; decide, fun r hr => by rw [List.mem_singleton.mp hr, List.length_replicate]; exact hm4⟩, fun i σ' W' ⟨_, _, _, _, _, _, _, g, _⟩ => g.on, ?_, ?_⟩
  · rintro i x vx σ' W3' W3 hi hx ⟨vf, v3, v4, v5, v6, rows, rfl, g3', r3, hmem, hlen, heach⟩ g3 rx
    obtain ⟨size, hs, rfl⟩ := map_get hx
    have evx : vx = .int size := rx
    subst evx
    have i4 : i < 4 := by
      have : (ups lots).length = lots.length := ups_len lots
      omega
    have pow : 16 ^ i ≤ 4096 := Nat.le_trans (Nat.pow_le_pow_right (by decide) (show i ≤ 3 by omega)) (by decide)
    have pow' : 16 ^ (i + 1) = 16 ^ i * 16 := Nat.pow_succ ..
    have hsub := subsets_len many size hm4
    -- later = {}
    intro d hd
    have gd : Grow W3 (W3.put d (.dT []) (W3.free hd)) := W3.grow_put hd
    have md0 : TMut (W3.put d (.dT []) (W3.free hd)) d [] := ⟨W3.free hd, [], upd_same, rfl⟩
    have r4 := rep_g gd (rep_g g3 r3)
    generalize hW4 : W3.put d (.dT []) (W3.free hd) = W4 at gd md0 r4
    have hH4 : upd W3.H d (.dT []) = W4.H := by rw [← hW4]; rfl
    show tSeq _ _ _ _ (upd W3.H d (.dT []))
    rw [hH4]
    -- for row in found
    refine q_for (ε := pur) (K := K) (xs := rows.map tupN) (ei_list (ev_var rfl r4)) trivial fun W5 g5 =>
      ⟨fun j σ W' => ∃ (v5 v6 : Option V), σ = [some (.int many), some v, some vf, some (.int size), some (.ref d), v5, v6, none, none] ∧ Md [d] W5 W' ∧ TMut W' d (tputs [] ((rows.take j).flatMap fun row => (subsetsN many size).map (addN row))),
        ⟨v5, v6, rfl, .refl _ _, md0.gr g5.pure⟩, fun j σ' W' ⟨_, _, _, g, _⟩ => g.on, ?_, ?_⟩
    · rintro j x vr σ' W6' W6 hj hx ⟨v5, v6, rfl, g6', m6'⟩ g6 rr
      obtain ⟨row, hrow, rfl⟩ := map_get hx
      have m6 := m6'.gr g6
      have hj' : j < rows.length := by rw [List.length_map] at hj; exact hj
      -- for some in subsets(many, size)
      refine s_for (ε := pur) (K := K) (xs := (subsetsN many size).map tupN) (ei_list (EvP.toR (ev_callP2 (ev_var rfl (show rep K W6.B (.int many) (many : Int) from rfl)).p (ev_var rfl (show rep K W6.B (.int size) (size : Int) from rfl)).p (fun v W W' g h => rep_s g h)
        fun u u2 W7 g7 ru ru2 Q k => ⟨W7, many, size, rfl, by rw [show u = _ from ru, show u2 = _ from ru2], by omega, fun w W8 g8 r8 => k w W8 (.of g8) r8⟩))) trivial fun W7 g7 =>
        ⟨fun l σ W' => ∃ (v6 : Option V), σ = [some (.int many), some v, some vf, some (.int size), some (.ref d), some vr, v6, none, none] ∧ Md [d] W7 W' ∧ TMut W' d (tputs [] (((rows.take j).flatMap fun row => (subsetsN many size).map (addN row)) ++ ((subsetsN many size).take l).map (addN row))),
          ⟨v6, rfl, .refl _ _, by simpa using m6.gr g7.pure⟩, fun l σ' W' ⟨_, _, g, _⟩ => g.on, ?_, ?_⟩
      · rintro l x vs' σ' W8' W8 hl' hx ⟨v6, rfl, g8', m8'⟩ g8 rs
        obtain ⟨some', hsome, rfl⟩ := map_get hx
        have m8 := m8'.gr g8
        rw [List.length_map] at hl'
        have flen : ((rows.take j).flatMap fun row => (subsetsN many size).map (addN row)).length ≤ j * 16 := by
          have : ∀ l : List (List Nat), (l.flatMap fun row => (subsetsN many size).map (addN row)).length ≤ l.length * 16 := by
            intro l
            induction l with
            | nil => simp
            | cons a l ih =>
              rw [List.flatMap_cons, List.length_append, List.length_map, List.length_cons]
              omega
          have := this (rows.take j)
          rw [List.length_take] at this
          have : min j rows.length * 16 ≤ j * 16 := Nat.mul_le_mul_right _ (Nat.min_le_left _ _)
          omega
        have g78 : On W6 W8 := g7.on.trans (g8'.on.trans g8.on)
        refine s_tput (K := K) (α := Bool) (k := tupN (addN row some')) (x := true) rfl m8 ev_bl ?_ ?_ fun W9 g9 o9 m9 => ⟨W9, rfl, _, rfl, (g8'.trans (Grow.s g8)).trans g9, ?_⟩
        · refine (ev_cb1 (ev_lcP (K := K) (xs := (ups row).zip (ups some')) (f := fun p => p.1 + p.2) (ei_zipT (xs := tupN row) (ys := tupN some') (ev_var rfl (rep_on g78 rr)) (ev_var rfl rs)).i (fun x v u W' hx g r1 r2 => ev_op (ev_var rfl r1) (ev_var rfl r2) ro_I0) ?_) rc_tupL).is ?_
          · rw [List.length_zip, ups_len, ups_len]
            have := heach row (List.mem_of_getElem? hrow)
            omega
          · rw [addN_ups]
            rfl
        · have := tputs_len (((rows.take j).flatMap fun row => (subsetsN many size).map (addN row)) ++ ((subsetsN many size).take l).map (addN row)) []
          rw [List.length_append, List.length_map, List.length_take] at this
          have e0 : ([] : List (List Key)).length = 0 := rfl
          omega
        · rw [take_snoc hsome, List.map_append, ← List.append_assoc, tputs_app]
          exact m9
      · rintro σ' W8 ⟨v6, rfl, g8, m8⟩
        refine ⟨W8, rfl, _, _, rfl, (g6'.trans (Grow.s g6)).trans ((Grow.s g7.pure).trans g8), ?_⟩
        rw [take_snoc hrow, List.flatMap_append, List.flatMap_singleton]
        rw [List.length_map, List.take_length] at m8
        exact m8
    · rintro σ' W6 ⟨v5, v6, rfl, g6, m6⟩
      rw [List.length_map, List.take_length] at m6
      -- found = list(later)
      obtain ⟨rows', hrows⟩ := keys_rows (tputs [] (rows.flatMap fun row => (subsetsN many size).map (addN row))) fun key hkey => by
        rcases (tputs_mem _ _ _).mp hkey with h | ⟨r, _, e⟩
        · simp at h
        · exact ⟨r, e⟩
      have mem' : ∀ r, r ∈ rows' ↔ r ∈ rows.flatMap fun row => (subsetsN many size).map (addN row) := fun r => by
        have h1 : r ∈ rows' ↔ kN r ∈ rows'.map kN := ⟨fun h => List.mem_map.mpr ⟨r, h, rfl⟩, fun h => by
          obtain ⟨x, hx, e⟩ := List.mem_map.mp h
          rw [← kN_inj e]; exact hx⟩
        rw [h1, ← hrows, tputs_mem]
        constructor
        · rintro (h | ⟨x, hx, e⟩)
          · simp at h
          · rw [kN_inj e]; exact hx
        · exact fun h => .inr ⟨r, h, rfl⟩
      refine s_asg (ε := pur) (K := K) (x := rows'.map tupN) (ev_listDT (K := K) rfl m6 (by rw [hrows, List.map_map]; rfl)) trivial fun vn W7 g7 r7 => ?_
      have gall : Md [d] W4 W7 := (Grow.s g5.pure).trans (g6.trans (Grow.s g7.pure))
      have gW : Grow W3 W7 := Md.fresh gd gall hd
      refine ⟨W7, rfl, vn, _, _, _, _, rows', rfl, (g3'.trans g3).trans gW, r7, fun r => ?_, ?_, fun r hr => ?_⟩
      · rw [mem', take_snoc hs]
        unfold sumsN
        rw [List.foldl_append, List.foldl_cons, List.foldl_nil, List.mem_flatMap, List.mem_flatMap]
        constructor
        · rintro ⟨a, ha, hb⟩; exact ⟨a, (hmem a).mp ha, hb⟩
        · rintro ⟨a, ha, hb⟩; exact ⟨a, (hmem a).mpr ha, hb⟩
      · have h1 := tputs_len (rows.flatMap fun row => (subsetsN many size).map (addN row)) []
        rw [hrows, List.length_map] at h1
        have : ∀ l : List (List Nat), (l.flatMap fun row => (subsetsN many size).map (addN row)).length ≤ l.length * 16 := by
          intro l
          induction l with
          | nil => simp
          | cons a l ih =>
            rw [List.flatMap_cons, List.length_append, List.length_map, List.length_cons]
            omega
        have h2 := this rows
        have e0 : ([] : List (List Key)).length = 0 := rfl
        have h3 : rows.length * 16 ≤ 16 ^ i * 16 := Nat.mul_le_mul_right _ hlen
        omega
      · obtain ⟨a, ha, hb⟩ := List.mem_flatMap.mp ((mem' r).mp hr)
        obtain ⟨b, _, e⟩ := List.mem_map.mp hb
        have := heach a ha
        rw [← e, addN_len]
        omega
  · rintro σ' W3 ⟨vf, v3, v4, v5, v6, rows, rfl, g3, r3, hmem, hlen, heach⟩
    rw [ups_len, List.take_length] at hmem
    exact s_ret (ε := pur) (K := K) (x := rows.map tupN) (ev_var rfl r3) trivial fun u W' g r => k u W' rows hmem (((g1.pure.trans g2.pure).trans g3).trans g.pure) r
theorem rd__law_rows (h : sp__law_rows K vs H Q E) : t__law_rows K { nx := fun _ H' => Q .non H', rt := Q } (start n__law_rows vs) H := by
  obtain ⟨W, many, most, rfl, rfl, hm4, hm5, k⟩ := h
  show t__law_rows K _ [some (.int many), some (.int most), none, none, none, none, none] W.H
  have pow : ∀ i, i ≤ 4 → (most + 1) ^ i ≤ 1296 := fun i hi => Nat.le_trans (Nat.pow_le_pow_left (show most + 1 ≤ 6 by omega) i) (Nat.le_trans (Nat.pow_le_pow_right (by decide) hi) (by decide))
  refine q_asg (ε := pur) (K := K) (x := (rowsN most 0).map tupN) (ev_lst (ea_cons (ev_tupN ea_nil (by decide)) ea_nil) (by show 1 ≤ 100000; decide)) trivial fun v W1 g1 r1 => ?_
  refine q_for (ε := pur) (K := K) (xs := rng 0 many) (ei_rng1 (n := (many : Int)) (ev_var rfl (show rep K W1.B (.int many) (many : Int) from rfl)) (by omega) (by omega)) trivial fun W2 g2 =>
    ⟨fun i σ W' => ∃ (v : V) (v3 v4 v5 : Option V), σ = [some (.int many), some (.int most), some v, v3, v4, v5, none] ∧ Grow W2 W' ∧ rep K W'.B v ((rowsN most i).map tupN), ⟨v, none, none, none, rfl, .refl _ _, rep_s g2 r1⟩, fun i σ' W' ⟨_, _, _, _, _, g, _⟩ => g.on, ?_, ?_⟩
  · rintro i x vx σ' W3' W3 hi hx ⟨v, v3, v4, v5, rfl, g3', r3⟩ g3 _
    rw [rng_len] at hi
    refine q_asg (ε := pur) (K := K) (x := ([] : List (Tup Int))) (ev_lst ea_nil (by decide)) trivial fun vl W4 g4 r4 => ?_
    refine q_for (ε := pur) (K := K) (xs := (rowsN most i).map tupN) (ei_list (ev_var rfl (rep_s g4 (rep_g g3 r3)))) trivial fun W5 g5 =>
      ⟨fun j σ W' => ∃ (vl : V) (v5 : Option V), σ = [some (.int many), some (.int most), some v, some vx, some vl, v5, none] ∧ Grow W5 W' ∧ rep K W'.B vl ((((rowsN most i).take j).flatMap fun r => (List.range (most + 1)).map fun k => r ++ [k]).map tupN), ⟨vl, v5, rfl, .refl _ _, rep_s g5 r4⟩, fun i σ' W' ⟨_, _, _, g, _⟩ => g.on, ?_, ?_⟩
    · rintro j x vr σ' W6' W6 hj hx ⟨vl, v5, rfl, g6', r6⟩ g6 rr
      obtain ⟨row, hrow, rfl⟩ := map_get hx
      have hrl := rowsN_each most i row (List.mem_of_getElem? hrow)
      have flen : (((rowsN most i).take j).flatMap fun r => (List.range (most + 1)).map fun k => r ++ [k]).length ≤ 7776 := by
        have : ∀ l : List (List Nat), (l.flatMap fun r => (List.range (most + 1)).map fun k => r ++ [k]).length = l.length * (most + 1) := by
          intro l
          induction l with
          | nil => simp
          | cons a l ih => rw [List.flatMap_cons, List.length_append, List.length_map, List.length_range, List.length_cons, ih, Nat.succ_mul]; omega
        rw [this, List.length_take, rowsN_len]
        have := pow i (by omega)
        exact Nat.le_trans (Nat.mul_le_mul (Nat.le_trans (Nat.min_le_right _ _) this) (show most + 1 ≤ 6 by omega)) (by decide)
      refine s_asg (ε := pur) (K := K) (x := (((rowsN most i).take (j + 1)).flatMap fun r => (List.range (most + 1)).map fun k => r ++ [k]).map tupN) ?_ trivial fun w W7 g7 r7 => ⟨W7, rfl, w, _, rfl, (g6'.trans g6).trans g7.pure, r7⟩
      refine (ev_op (ev_var rfl (rep_g g6 r6)) (ev_lcN (K := K) (xs := rng 0 (most + 1)) (f := fun n => Tup.mk (ups row ++ [n])) (EvJ.i (ei_rng1 (n := ((most : Int) + 1)) (ev_op (ev_var rfl (show rep K W6.B (.int most) (most : Int) from rfl)) ev_int ro_I0) (by omega) (by omega))) (fun x v' W' hx g rx => ev_op (ev_var rfl (rep_s g rr)) (ev_tupN (ea_cons (ev_var rfl rx) ea_nil) (by show 1 ≤ 100000; decide)) (ro_catT (by show (ups row).length + 1 ≤ 100000; rw [ups_len]; omega))) (by rw [rng_len]; omega)) (ro_cat (by rw [List.length_map, List.length_map, rng_len]; omega))).is ?_
      rw [take_snoc hrow, List.flatMap_append, List.map_append, List.flatMap_singleton]
      congr 1
      unfold rng
      rw [List.map_map, List.map_map]
      refine List.map_congr_left fun n _ => ?_
      show Tup.mk (ups row ++ [(0 : Int) + (n : Int)]) = Tup.mk (ups (row ++ [n]))
      rw [ups_app, Int.zero_add]
      rfl
    · rintro σ' W6 ⟨vl, v5, rfl, g6, r6⟩
      rw [List.length_map, List.take_length] at r6
      exact s_asg (ε := pur) (K := K) (x := (rowsN most (i + 1)).map tupN) (ev_var rfl r6) trivial fun w W7 g7 r7 => ⟨W7, rfl, w, _, _, _, rfl, ((((g3'.trans g3).trans g4.pure).trans g5.pure).trans g6).trans g7.pure, r7⟩
  · rintro σ' W3 ⟨v, v3, v4, v5, rfl, g3, r3⟩
    rw [rng_len] at r3
    exact s_ret (ε := pur) (K := K) (x := (rowsN most many).map tupN) (ev_var rfl r3) trivial fun u W' g r => k u W' (((g1.pure.trans g2.pure).trans g3).trans g.pure) r
theorem ups_sum_take (l : List Nat) (i : Nat) {a : Nat} (h : l[i]? = some a) : ((l.take (i + 1)).sum : Nat) = (l.take i).sum + a := by
  rw [take_snoc h, List.sum_append]
  simp
theorem rd_holds (h : sp_holds K vs H Q E) : t_holds K { nx := fun _ H' => Q .non H', rt := Q } (start n_holds vs) H := by
  obtain ⟨W, v, w, kv, wv, lots, row, rfl, rfl, dv, dw, hb, hl, hr, hw, hrl, k⟩ := h
  show t_holds K _ [some v, some w, none, none, none, none] W.H
  generalize hS : sortN row = S at k
  have hSl : S.length = row.length := by rw [← hS]; exact (sortN_perm row).length_eq
  have hreach : ∀ {σ : SS} {W' : Wd} {te : TE} {n : Nat}, σ[0]? = some (some v) → On W W' → EvR pur K te σ W' (n : Int) → EvR pur K (tCall (sp_reach K) [] E0 (tCons (tVar 0) (tCons te tNil))) σ W' ((reachN lots n : Nat) : Int) := fun {σ W' te n} h1 o h2 =>
    EvR.is (ev_callP2 (P := fun v W => DictAt K W v (⟨kv⟩ : Dict Int Int)) (P2 := fun v W => rep K W.B v (n : Int)) (ev_dvar h1 (dv.on o)) h2 (fun v W W' g h => h.s g)
      fun v v2 W1 _ h1 h2 Q k => ⟨W1, v, kv, n, rfl, by rw [show v2 = _ from h2], h1, hb, hl, fun W2 g2 => k _ W2 (.of g2) rfl⟩) (hr n)
  -- row = sorted(wanted.values(), reverse=True)
  refine q_asg (ε := pur) (K := K) (x := ups S) (ev_sortedVR (ev_dvar rfl dw) (by rw [show (⟨wv⟩ : Dict Str Int).kv = wv from rfl, hw, ← hS]; exact (sortN_perm row).map _) (by rw [← hS]; exact List.pairwise_map.mpr ((sortN_srt row).imp fun h => by omega))) trivial fun vr W1 g1 r1 => ?_
  -- if sum(row) != reach(sizes, 12)
  have holds_eq : holdsN lots S = (Nat.beq S.sum (reachN lots 12) && fits lots 0 0 S) := rfl
  refine q_when (ε := pur) (et_test (ev_op (ev_cb1 (ev_var rfl r1) rc_sum) (hreach rfl g1.on (n := 12) ev_int) ro_neI)) trivial (fun hb' W2 g2 => ?_) (fun hb' W2 g2 => ?_)
  · refine s_ret (ε := pur) (K := K) (x := false) ev_bl trivial fun u W3 g3 r3 => ?_
    have hne : ¬ (S.sum : Int) = (reachN lots 12 : Int) := by
      rw [← ups_sum]
      simpa using hb'
    have : holdsN lots S = false := by
      rw [holds_eq]
      have : Nat.beq S.sum (reachN lots 12) = false := by
        cases e : Nat.beq S.sum (reachN lots 12) with
        | false => rfl
        | true => exact absurd (by rw [Nat.eq_of_beq_eq_true e]) hne
      rw [this]
      rfl
    rw [show u = _ from r3, ← this]
    exact k W3 ((g1.pure.trans g2.pure).trans g3.pure)
  · have heq : Nat.beq S.sum (reachN lots 12) = true := by
      rw [Nat.beq_eq]
      have : (S.sum : Int) = (reachN lots 12 : Int) := by
        rw [← ups_sum]
        simpa using hb'
      omega
    rw [heq, Bool.true_and] at holds_eq
    refine q_asg (ε := pur) (K := K) (x := (0 : Int)) ev_int trivial fun v0 W3 g3 r0 => ?_
    have e0 : v0 = .int 0 := r0
    subst e0
    have o3 : On W W3 := g1.on.trans (g2.on.trans g3.on)
    refine q_for (ε := pur) (K := K) (xs := (rng 0 (ups S).length).zip (ups S)) (ei_enum (ev_var rfl (rep_s g3 (rep_s g2 r1)))) trivial fun W4 g4 =>
      ⟨fun i σ W' => ∃ v4 v5 : Option V, σ = [some v, some w, some vr, some (.int ((S.take i).sum : Nat)), v4, v5] ∧ Grow W4 W' ∧ fits lots 0 0 S = fits lots i (S.take i).sum (S.drop i), ⟨none, none, rfl, .refl _ _, by simp⟩, fun i σ' W' ⟨_, _, _, g, _⟩ => g.on, ?_, ?_⟩
    · rintro i x vx σ' W5' W5 hi hx ⟨v4, v5, rfl, g5', hf⟩ g5 rx
      rw [List.getElem?_zip_eq_some] at hx
      obtain ⟨hx1, hx2⟩ := hx
      obtain ⟨x1, x2⟩ := x
      obtain ⟨a, ha, e2⟩ := map_get hx2
      have hiS : i < S.length := by
        rw [List.length_zip, rng_len, ups_len] at hi
        omega
      have hx1' : x1 = (i : Int) := by
        rw [rng_get (by rw [ups_len]; exact hiS), Int.zero_add] at hx1
        exact (Option.some.inj hx1).symm
      simp only at e2
      subst e2 hx1'
      refine gt_pair (α := Int) (β := Int) _ vx W5 _ _ rx fun σ2 ⟨u1, u2, ru1, ru2, e⟩ => ?_
      subst e
      have eu1 : u1 = .int i := ru1
      have eu2 : u2 = .int a := ru2
      subst eu1 eu2
      refine q_augI (ε := pur) (K := K) (a := ((S.take i).sum : Nat)) (b := (a : Int)) rfl (ev_var rfl (show rep K W5.B (.int a) (a : Int) from rfl)) trivial fun W6 g6 => ?_
      have etot : ((S.take (i + 1)).sum : Nat) = (S.take i).sum + a := ups_sum_take S i ha
      have evv : (((S.take i).sum : Nat) : Int) + (a : Int) = (((S.take (i + 1)).sum : Nat) : Int) := by rw [etot]; omega
      rw [evv]
      have hd : S.drop i = a :: S.drop (i + 1) := by
        rw [List.drop_eq_getElem_cons hiS]
        congr 1
        rw [List.getElem?_eq_getElem hiS] at ha
        exact Option.some.inj ha
      have hfit : fits lots i (S.take i).sum (S.drop i) = if Nat.ble ((S.take i).sum + a) (reachN lots (i + 1)) then fits lots (i + 1) ((S.take i).sum + a) (S.drop (i + 1)) else false := by rw [hd]; rfl
      have o6 : On W W6 := o3.trans (g4.on.trans (g5'.on.trans (g5.on.trans g6.on)))
      refine s_when (ε := pur) (et_test (ev_op (ev_var rfl (show rep K W6.B (.int ((S.take (i + 1)).sum : Nat)) (((S.take (i + 1)).sum : Nat) : Int) from rfl)) (hreach rfl o6 (n := i + 1) (EvR.is (ev_op (ev_var rfl (show rep K W6.B (.int i) (i : Int) from rfl)) ev_int ro_I0) (by omega))) ro_B0)) trivial (fun hb2 W7 g7 => ?_) (fun hb2 W7 g7 => ?_)
      · refine s_ret (ε := pur) (K := K) (x := false) ev_bl trivial fun u W8 g8 r8 => ?_
        have hlt : (reachN lots (i + 1) : Int) < (((S.take (i + 1)).sum : Nat) : Int) := of_decide_eq_true hb2
        have hble : Nat.ble ((S.take i).sum + a) (reachN lots (i + 1)) = false := by
          cases e : Nat.ble ((S.take i).sum + a) (reachN lots (i + 1)) with
          | false => rfl
          | true => have := Nat.le_of_ble_eq_true e; omega
        have : holdsN lots S = false := by rw [holds_eq, hf, hfit, hble]; rfl
        rw [show u = _ from r8, ← this]
        exact k W8 ((((((((g1.pure.trans g2.pure).trans g3.pure).trans g4.pure).trans g5').trans g5).trans g6.pure).trans g7.pure).trans g8.pure)
      · have hge : ¬ (reachN lots (i + 1) : Int) < (((S.take (i + 1)).sum : Nat) : Int) := of_decide_eq_false hb2
        have hble : Nat.ble ((S.take i).sum + a) (reachN lots (i + 1)) = true := Nat.ble_eq_true_of_le (by omega)
        refine ⟨W7, rfl, _, _, rfl, ((g5'.trans g5).trans g6.pure).trans g7.pure, ?_⟩
        rw [hf, hfit, hble, etot]
        rfl
    · rintro σ' W5 ⟨v4, v5, rfl, g5, hf⟩
      refine s_ret (ε := pur) (K := K) (x := true) ev_bl trivial fun u W6 g6 r6 => ?_
      have hn : ((rng 0 (ups S).length).zip (ups S)).length = S.length := by rw [List.length_zip, rng_len, ups_len]; omega
      rw [hn, List.drop_length] at hf
      have : holdsN lots S = true := by rw [holds_eq, hf]; rfl
      rw [show u = _ from r6, ← this]
      exact k W6 ((((((g1.pure.trans g2.pure).trans g3.pure).trans g4.pure).trans g5)).trans g6.pure)
/-! ### the counts of sizes -/
theorem reach_app (kv : List (Int × Int)) (k v m : Int) : reachF (kv ++ [(k, v)]) m = reachF kv m + v * (if m < k then m else k) := by
  unfold reachF
  rw [List.map_append, List.sum_append]
  simp
theorem reach_sub (kv : List (Int × Int)) (k v m : Int) (hn : (kv.map (·.1)).Nodup) {w : Int} (hk : klook kv k = some w) :
    reachF (kv.map fun q => if q.1 = k then (q.1, v) else q) m = reachF kv m + (v - w) * (if m < k then m else k) := by
  induction kv with
  | nil => cases hk
  | cons q kv ih =>
    rw [List.map_cons, List.nodup_cons] at hn
    rw [klook_cons] at hk
    have cons : ∀ (p : Int × Int) (l : List (Int × Int)), reachF (p :: l) m = p.2 * (if m < p.1 then m else p.1) + reachF l m := fun _ _ => rfl
    rw [List.map_cons, cons, cons]
    by_cases e : q.1 = k
    · rw [if_pos e] at hk
      rw [if_pos e]
      have hw : q.2 = w := Option.some.inj hk
      have : kv.map (fun q => if q.1 = k then (q.1, v) else q) = kv := by
        have : ∀ p ∈ kv, (if p.1 = k then (p.1, v) else p) = p := fun p hp => if_neg fun z => hn.1 (by rw [e, ← z]; exact List.mem_map.mpr ⟨p, hp, rfl⟩)
        exact (List.map_congr_left this).trans (List.map_id' _)
      simp only
      rw [this, e, hw, Int.sub_mul]
      omega
    · rw [if_neg e] at hk
      rw [if_neg e, ih hn.2 hk]
      omega
theorem reach_put (kv : List (Int × Int)) (k v m : Int) (hn : (kv.map (·.1)).Nodup) : reachF (kput kv k v) m = reachF kv m + (v - (klook kv k).getD 0) * (if m < k then m else k) := by
  unfold kput
  by_cases h : (kv.any fun q => decide (q.1 = k)) = true
  · rw [if_pos h]
    cases e : klook kv k with
    | none =>
      rw [klook_none] at e
      obtain ⟨q, hq, hd⟩ := List.any_eq_true.mp h
      exact absurd (List.mem_map.mpr ⟨q, hq, of_decide_eq_true hd⟩) e
    | some w => exact reach_sub kv k v m hn e
  · rw [if_neg h, reach_app]
    have : klook kv k = none := klook_none.mpr fun z => by
      obtain ⟨q, hq, e⟩ := List.mem_map.mp z
      exact h (List.any_eq_true.mpr ⟨q, hq, decide_eq_true e⟩)
    rw [this]
    show _ = _ + (v - 0) * _
    rw [Int.sub_zero]
theorem reachN_app (lots : List Nat) (s m : Nat) : (reachN (lots ++ [s]) m : Int) = reachN lots m + (if (m : Int) < (s : Int) then (m : Int) else (s : Int)) := by
  unfold reachN
  rw [List.map_append, List.sum_append, List.map_singleton, List.sum_singleton]
  by_cases h : Nat.ble s m = true
  · have := Nat.le_of_ble_eq_true h
    rw [if_pos h, if_neg (by omega)]
    omega
  · have : ¬ s ≤ m := fun z => h (Nat.ble_eq_true_of_le z)
    rw [if_neg h, if_pos (by omega)]
    omega
structure SzInv (kv : List (Int × Int)) (lots : List Nat) (n : Nat) : Prop where
  nd : (kv.map (·.1)).Nodup
  b : ∀ q ∈ kv, 0 ≤ q.2 ∧ q.2 ≤ n
  l : kv.length ≤ n
  r : ∀ m : Nat, reachF kv m = reachN lots m
theorem SzInv.nil : SzInv [] [] 0 := ⟨List.nodup_nil, by simp, Nat.le_refl _, fun m => rfl⟩
theorem look_bnd {kv : List (Int × Int)} {lots : List Nat} {n : Nat} (h : SzInv kv lots n) (k : Int) : 0 ≤ (klook kv k).getD 0 ∧ (klook kv k).getD 0 ≤ n := by
  cases e : klook kv k with
  | none => exact ⟨Int.le_refl _, Int.natCast_nonneg _⟩
  | some w => exact h.b _ (klook_mem e)
theorem SzInv.mono {kv : List (Int × Int)} {lots : List Nat} {n : Nat} (h : SzInv kv lots n) : SzInv kv lots (n + 1) := ⟨h.nd, fun q hq => by have := h.b q hq; omega, by have := h.l; omega, h.r⟩
theorem SzInv.put {kv : List (Int × Int)} {lots : List Nat} {n : Nat} (h : SzInv kv lots n) (s : Nat) : SzInv (kput kv s ((klook kv s).getD 0 + 1)) (lots ++ [s]) (n + 1) where
  nd := kput_keys_nodup h.nd
  b := fun q hq => by
    have := look_bnd h s
    rcases kput_mem hq with e | e
    · have := h.b q e; omega
    · rw [e]; simp only; omega
  l := by have := kput_len kv (s : Int) ((klook kv s).getD 0 + 1); have := h.l; omega
  r := fun m => by
    rw [reach_put _ _ _ _ h.nd, h.r, reachN_app]
    have : (klook kv (s : Int)).getD 0 + 1 - (klook kv (s : Int)).getD 0 = 1 := by omega
    rw [this, Int.one_mul]
theorem SzInv.zero {kv : List (Int × Int)} {lots : List Nat} {n : Nat} (h : SzInv kv lots n) (k : Int) (hk : klook kv k = none) : SzInv (kput kv k 0) lots (n + 1) where
  nd := kput_keys_nodup h.nd
  b := fun q hq => by
    rcases kput_mem hq with e | e
    · have := h.b q e; omega
    · rw [e]; simp only; omega
  l := by have := kput_len kv k 0; have := h.l; omega
  r := fun m => by
    rw [reach_put _ _ _ _ h.nd, h.r, hk]
    show _ + (0 - 0) * _ = _
    rw [Int.sub_zero, Int.zero_mul, Int.add_zero]
theorem kput_fresh {κ α : Type} [DecidableEq κ] {kv : List (κ × α)} {k : κ} {v : α} (h : k ∉ kv.map (·.1)) : kput kv k v = kv ++ [(k, v)] := by
  unfold kput
  rw [if_neg fun z => ?_]
  obtain ⟨q, hq, e⟩ := List.any_eq_true.mp z
  exact h (List.mem_map.mpr ⟨q, hq, of_decide_eq_true e⟩)
/-- what is wanted -/
def wantF (bare : Bool) (names : List Str) (row : List Int) : List (Str × Int) := (names.zip row).filter fun p => decide (0 < p.2) || !bare
theorem want_cons (bare : Bool) (x : Str) (a : Int) (names : List Str) (row : List Int) : wantF bare (x :: names) (a :: row) = if (decide (0 < a) || !bare) = true then (x, a) :: wantF bare names row else wantF bare names row := by
  unfold wantF
  rw [List.zip_cons_cons, List.filter_cons]
theorem want_vals (bare : Bool) : ∀ (names : List Str) (row : List Nat), row.length ≤ names.length → (wantF bare names (ups row)).map (·.2) = ups (if bare then row.filter fun k => Nat.blt 0 k else row)
  | names, [], _ => by
    unfold wantF
    simp [ups]
  | [], a :: r, h => by simp at h
  | x :: names, a :: r, h => by
    have ih := want_vals bare names r (by simpa using h)
    show (wantF bare (x :: names) ((a : Int) :: ups r)).map (·.2) = _
    rw [want_cons]
    cases bare with
    | false =>
      rw [if_pos (by simp), List.map_cons, ih]
      rfl
    | true =>
      have e : ((a :: r).filter fun k => Nat.blt 0 k) = if Nat.blt 0 a = true then a :: r.filter (fun k => Nat.blt 0 k) else r.filter fun k => Nat.blt 0 k := List.filter_cons
      rw [if_pos rfl] at ih ⊢
      rw [e]
      by_cases q : 0 < a
      · have q2 : Nat.blt 0 a = true := Nat.ble_eq_true_of_le q
        rw [if_pos (by simp; omega), if_pos q2, List.map_cons, ih]
        rfl
      · have q2 : ¬ Nat.blt 0 a = true := fun z => q (Nat.le_of_ble_eq_true z)
        rw [if_neg (by simp; omega), if_neg q2]
        exact ih
theorem abcd_nodup : (signs "abcd").Nodup := by decide +kernel
theorem abcd_len : (signs "abcd").length = 4 := by decide +kernel
theorem rd_law (h : sp_law K vs H Q E) : t_law K { nx := fun _ H' => Q .non H', rt := Q } (start n_law vs) H := by
  obtain ⟨a, ns, rfl, hS, hl, k⟩ := h
  let W : Wd := ⟨H, H, Ext.refl H⟩
  show t_law K _ [some (.ref a), none, none, none, none, none, none, none, none, none, none, none, none, none, none] W.H
  refine ⟨_, rfl, W, a, ns, rfl, rfl, hS, hl, fun p c W1 g1 s1 _ _ => ?_⟩
  refine q_for (ε := pur) (K := K) (xs := rng 0 2) (ei_rng1 (n := 2) ev_int (by decide) (by decide)) trivial fun W2 g2 =>
    ⟨fun i σ W' => ∃ v2 v3 v4 v5 v6 v7 v8 v9 v10 v11 v12 v13 v14 : Option V, σ = [some (.ref a), some (.ref p), v2, v3, v4, v5, v6, v7, v8, v9, v10, v11, v12, v13, v14] ∧ On W2 W' ∧ St W' p c,
      ⟨none, none, none, none, none, none, none, none, none, none, none, none, none, rfl, .refl _, s1.g g2.pure⟩, fun i σ' W' ⟨_, _, _, _, _, _, _, _, _, _, _, _, _, _, o, _⟩ => o, ?_, ?_⟩
  · rintro i x v2 σ' W3' W3 hi hx ⟨_, v3, v4, v5, v6, v7, v8, v9, v10, v11, v12, v13, v14, rfl, o3', s3'⟩ g3 _
    have o3 := o3'.trans g3.on
    have s3 := s3'.g g3
    -- many = 1 + draw(4)
    refine q_asgP (ε := drw p c) (ep_add (P := fun r => 0 ≤ r ∧ r < 4) (ev_draw rfl ev_int (by decide) (by decide))) s3 fun vm W4 g4 ⟨r, em, hr⟩ => ?_
    obtain ⟨many, hmany, hm1, hm4⟩ : ∃ m : Nat, 1 + r = (m : Int) ∧ 1 ≤ m ∧ m ≤ 4 := ⟨(1 + r).toNat, by omega, by omega, by omega⟩
    rw [hmany] at em
    subst em
    have s4 : St W4 p c := g4.i
    -- lots
    have hbound : ∃ y : Int, atI [5, 5, 4, 3] ((many : Int) - 1) = some y ∧ 1 ≤ y ∧ y ≤ 5 ∧ y - 1 ≤ mostN many := by
      have : many = 1 ∨ many = 2 ∨ many = 3 ∨ many = 4 := by omega
      rcases this with e | e | e | e <;> subst e
      · exact ⟨5, rfl, by decide, by decide, by decide⟩
      · exact ⟨5, rfl, by decide, by decide, by decide⟩
      · exact ⟨4, rfl, by decide, by decide, by decide⟩
      · exact ⟨3, rfl, by decide, by decide, by decide⟩
    obtain ⟨y, hy, hy1, hy5, hyM⟩ := hbound
    refine q_asgP (ε := drw p c) (ep_lcQ (K := K) (α := Int) (β := Int) (P := fun xs => ∃ n, (0 ≤ n ∧ n < y) ∧ xs = rng 0 n.toNat) (R := fun z => 1 ≤ z ∧ z ≤ 4) (ei_rngQ (K := K) (P := fun n => 0 ≤ n ∧ n < y) (ev_draw rfl (ev_op (ev_lst (ea_cons ev_int (ea_cons ev_int (ea_cons ev_int (ea_cons ev_int ea_nil)))) (by decide)) (ev_op (ev_var rfl (show rep K W4.B (.int many) (many : Int) from rfl)) ev_int ro_I0) (ro_ixL hy)) (by omega) (by omega)) (fun n h => by omega))
      (fun xs ⟨n, h, e⟩ => by rw [e, rng_len]; omega) (fun x v W' g rx => ?_)) s4 fun vl W5 g5 ⟨xs, ys, ⟨n, hn, exs⟩, hly, hR, rl⟩ => ?_
    · intro W6 g6 Q k
      refine ep_add (P := fun r => 0 ≤ r ∧ r < 4) (ev_draw rfl ev_int (by decide) (by decide)) W6 g6 _ fun u W7 g7 ⟨r, e, hr⟩ => k u W7 g7 ⟨1 + r, by omega, e⟩
    have s5 : St W5 p c := g5.i
    obtain ⟨lots, rfl⟩ : ∃ lots : List Nat, ys = ups lots := by
      refine ⟨ys.map Int.toNat, ?_⟩
      unfold ups
      rw [List.map_map]
      refine (List.map_id' ys).symm.trans (List.map_congr_left fun z hz => ?_)
      have := hR z hz
      show z = ((z.toNat : Nat) : Int)
      omega
    have hlots : ∀ s ∈ lots, 1 ≤ s ∧ s ≤ 4 := fun s hs => by
      have := hR (s : Int) (List.mem_map.mpr ⟨s, hs, rfl⟩)
      omega
    have hll : lots.length ≤ mostN many := by
      rw [ups_len, exs, rng_len] at hly
      omega
    have hl4 : lots.length ≤ 4 := by unfold mostN at hll; split at hll <;> (try split at hll) <;> omega
    have hok := all_ok hm1 hm4 hll hlots
    -- sizes = {}
    intro d hd
    have gd : Grow W5 (W5.put d (.dK []) (W5.free hd)) := W5.grow_put hd
    have md0 : DMut (κ := Int) (α := Int) K (W5.put d (.dK []) (W5.free hd)) d [] := DMut.new W5 hd
    have dp : d ≠ p := fun z => s5.dom.1 (z ▸ hd)
    have dc : d ≠ c := fun z => s5.dom.2 (z ▸ hd)
    generalize hW6 : W5.put d (.dK []) (W5.free hd) = W6 at gd md0
    have hH6 : upd W5.H d (.dK []) = W6.H := by rw [← hW6]; rfl
    show tSeq _ _ _ _ (upd W5.H d (.dK []))
    rw [hH6]
    have s6 := s5.g gd
    -- for size in lots
    refine q_for (ε := pur) (K := K) (xs := ups lots) (ei_list (ev_var rfl (rep_g gd rl))) trivial fun W7 g7 =>
      ⟨fun j σ W' => ∃ (v7 : Option V) (kv : List (Int × Int)), σ = [some (.ref a), some (.ref p), some v2, some (.int many), some vl, v5, some (.ref d), v7, v8, v9, v10, v11, v12, v13, v14] ∧ Md [d] W7 W' ∧ DMut K W' d kv ∧ SzInv kv (lots.take j) j,
        ⟨v7, [], rfl, .refl _ _, md0.gr g7.pure, by rw [List.take_zero]; exact .nil⟩, fun j σ' W' ⟨_, _, _, g, _⟩ => g.on, ?_, ?_⟩
    · rintro j x vx σ' W8' W8 hj hx ⟨v7, kv, rfl, g8', m8', sz⟩ g8 rx
      obtain ⟨size, hsz, rfl⟩ := map_get hx
      have hj4 : j < 4 := by rw [ups_len] at hj; omega
      refine s_dput (K := K) (κ := Int) (α := Int) (k := (size : Int)) (x := (klook kv (size : Int)).getD 0 + 1) rfl (m8'.gr g8) (ev_op (ev_dget2 rfl (m8'.gr g8) (by simp [pur]) (ek_int (ev_var rfl rx)) ev_int) ev_int ro_I0) (ek_int (ev_var rfl rx)) (by have := sz.l; omega) fun W9 g9 o9 m9 => ⟨W9, rfl, _, _, rfl, (g8'.trans (Grow.s g8)).trans g9, m9, ?_⟩
      rw [take_snoc hsz]
      exact sz.put size
    rintro σ' W8 ⟨v7, kv, rfl, g8, m8, sz⟩
    have hul : (ups lots).length = lots.length := ups_len lots
    rw [hul, List.take_length] at sz
    have s8 : St W8 p c := (s6.g g7.pure).off g8 (by simpa using dp.symm) (by simpa using dc.symm)
    -- if draw(2) == 0: sizes.setdefault(..)
    refine q_whenJ (ε := drw p c) (fun W9 => ∃ kv, Md [d, p, c] W8 W9 ∧ St W9 p c ∧ DMut (κ := Int) (α := Int) K W9 d kv ∧ SzInv kv lots (lots.length + 1)) (etq (ep_eq K (P := fun r => 0 ≤ r ∧ r < 2) (ev_draw rfl ev_int (by decide) (by decide)))) s8 ?_ (fun W9 g9 kk => ?_) (fun W9 g9 => ⟨kv, g9.md.mono (fun x h => List.mem_cons_of_mem _ h), g9.i, m8.s g9 (by simp [drw, dp, dc]), sz.mono⟩)
    rotate_left
    · refine ⟨.ref d, rfl, d, rfl, .inl ?_, ?_⟩
      · obtain ⟨ks, e, _⟩ := (m8.s g9 (by simp [drw, dp, dc])).ex
        exact ⟨ks, .inl e⟩
      refine ep_add (ε := drw p c) (P := fun r => 0 ≤ r ∧ r < 12) (ev_draw rfl ev_int (by decide) (by decide)) W9 g9.rf _ fun u W10 g10 ⟨r, eu, hr⟩ => ?_
      have m10 := (m8.s (g9.trans g10) (by simp [drw, dp, dc]))
      obtain ⟨ks, e, rk⟩ := m10.ex
      have md : Md [d, p, c] W8 W10 := (g9.trans g10).md.mono (fun x h => List.mem_cons_of_mem _ h)
      refine ⟨ks, PyKey.key (1 + r), e, eu, by rw [KReps.len rk]; exact Evl.sz_lt (by have := sz.l; omega), fun v hv => kk W10 ⟨kv, md, g10.i, m10, sz.mono⟩, fun hv => ?_⟩
      refine kk (W10.put d _ m10.b) ⟨kput kv (1 + r) 0, md.trans ((md_put m10.b).mono (by simp)), (show St W10 p c from g10.i).off (md_put m10.b) (by simpa using dp.symm) (by simpa using dc.symm), ⟨m10.b, _, upd_same, KReps.put rk (1 + r) rfl⟩, sz.zero (1 + r) ?_⟩
      rcases klk rk (1 + r) with ⟨h1, h2⟩ | ⟨x, v, h1, h2, h3⟩
      · exact h1
      · rw [h2] at hv; cases hv
    rintro W9 ⟨kv, g9, s9, m9, sz⟩
    obtain ⟨od, hod, dat, exf, mdf⟩ := m9.fix
    have m9b := m9.b
    generalize hW10 : W9.fix d od hod = W10 at dat exf mdf
    have hH10 : W9.H = W10.H := by rw [← hW10]; rfl
    have s10 : St W10 p c := by
      rw [← hW10]
      exact s9.keep rfl rfl (upd_ne dp.symm) (upd_ne dc.symm)
    have rl10 : rep K W10.B vl (ups lots) := rex exf (rep_on (g7.on.trans (g8.on.trans g9.on)) (rep_g gd rl))
    rw [hH10]
    -- sums_here, bare
    refine q_par (ε := drw p c) (P := fun v W => ∃ rows : List (List Nat), (∀ r, r ∈ rows ↔ r ∈ sumsN many lots) ∧ rep K W.B v (rows.map tupN)) (R := fun v _ => ∃ b : Bool, v = .bl b) (ev_callP2 (ev_var rfl (show rep K W10.B (.int many) (many : Int) from rfl)).p (ev_var rfl rl10).p (fun v W W' g h => rep_s g h)
      fun u u2 W7 g7 ru ru2 Q k => ⟨W7, many, u2, lots, rfl, by rw [show u = _ from ru], ru2, hm1, hm4, hl4, fun w W8 rows hm g8 r8 => k w W8 (g7.rf.and g8) ⟨rows, hm, r8⟩⟩) (ep_eq K (P := fun r => 0 ≤ r ∧ r < 2) (ev_draw rfl ev_int (by decide) (by decide))) s10 (fun v W W' g ⟨rows, h1, h2⟩ => ⟨rows, h1, rep_s g h2⟩) fun vs0 vb W11 g11 ⟨rows, hrows, rs11⟩ ⟨bare, eb⟩ => ?_
    subst eb
    have s11 : St W11 p c := g11.i
    have rl11 : rep K W11.B vl (ups lots) := rep_s g11 rl10
    have d11 : DictAt K W11 (.ref d) (⟨kv⟩ : Dict Int Int) := dat.s g11
    -- for row in rows(many, len(lots) + 1)
    refine s_for (ε := pur) (K := K) (xs := (rowsN (lots.length + 1) many).map tupN) (ei_list (EvP.toR (ev_callP2 (ev_var rfl (show rep K W11.B (.int many) (many : Int) from rfl)).p (EvR.is (ev_op (ev_cb1 (ev_var rfl rl11) rc_len) ev_int ro_I0) (show ((ups lots).length : Int) + 1 = ((lots.length + 1 : Nat) : Int) by rw [ups_len]; rfl)).p (fun v W W' g h => rep_s g h)
      fun u u2 W7 g7 ru ru2 Q k => ⟨W7, many, lots.length + 1, rfl, by rw [show u = _ from ru, show u2 = _ from ru2], hm4, by omega, fun w W8 g8 r8 => k w W8 (.of g8) r8⟩))) trivial fun W12 g12 =>
      ⟨fun j σ W' => ∃ v10 v11 v12 v13 v14 : Option V, σ = [some (.ref a), some (.ref p), some v2, some (.int many), some vl, v5, some (.ref d), v7, some vs0, some (.bl bare), v10, v11, v12, v13, v14] ∧ Grow W12 W',
        ⟨v10, v11, v12, v13, v14, rfl, .refl _ _⟩, fun j σ' W' ⟨_, _, _, _, _, _, g⟩ => g.on, ?_, ?_⟩
    · rintro j x vr σ' W13' W13 hj hx ⟨v10, v11, v12, v13, v14, rfl, g13'⟩ g13 rr
      obtain ⟨row, hrow, rfl⟩ := map_get hx
      have hrm : row ∈ rowsN (lots.length + 1) many := List.mem_of_getElem? hrow
      have hrl := rowsN_each _ _ row hrm
      have o11 : Grow W11 W13 := (g12.pure.trans g13').trans g13
      -- wanted = {}
      intro w hw
      have gw : Grow W13 (W13.put w (.dK []) (W13.free hw)) := W13.grow_put hw
      have mw0 : DMut (κ := Str) (α := Int) K (W13.put w (.dK []) (W13.free hw)) w [] := DMut.new W13 hw
      generalize hW14 : W13.put w (.dK []) (W13.free hw) = W14 at gw mw0
      have hH14 : upd W13.H w (.dK []) = W14.H := by rw [← hW14]; rfl
      show tSeq _ _ _ _ (upd W13.H w (.dK []))
      rw [hH14]
      refine q_for (ε := pur) (K := K) (xs := (signs "abcd").zip (tupN row).items) (ei_zipS (x := "abcd") (ys := tupN row) ev_str (ev_var rfl (rep_g gw rr))) trivial fun W15 g15 =>
        ⟨fun l σ W' => ∃ v12 v13 : Option V, σ = [some (.ref a), some (.ref p), some v2, some (.int many), some vl, v5, some (.ref d), v7, some vs0, some (.bl bare), some vr, some (.ref w), v12, v13, v14] ∧ Md [w] W15 W' ∧ DMut K W' w ((((signs "abcd").zip (tupN row).items).take l).filter fun p => decide (0 < p.2) || !bare),
          ⟨v12, v13, rfl, .refl _ _, mw0.gr g15.pure⟩, fun l σ' W' ⟨_, _, _, g, _⟩ => g.on, ?_, ?_⟩
      · rintro l ⟨nm, num⟩ vx σ' W16' W16 hl' hx ⟨v12, v13, rfl, g16', m16'⟩ g16 rx
        refine gt_pair (α := Str) (β := Int) _ vx W16 _ _ rx fun σ2 ⟨u1, u2, ru1, ru2, e⟩ => ?_
        subst e
        have m16 := m16'.gr g16
        have tk := take_snoc hx
        refine s_when (ε := pur) (b := decide (0 < num) || !bare) (et_or (et_test (ev_op (ev_var rfl ru2) ev_int ro_B0)) fun _ => et_not (et_B (ev_var rfl (show rep K W16.B (.bl bare) bare from rfl)))) trivial (fun hb W17 g17 => ?_) (fun hb W17 g17 => ⟨W17, rfl, _, _, rfl, (g16'.trans (Grow.s g16)).trans (Grow.s g17.pure), ?_⟩)
        · have fr : nm ∉ (((((signs "abcd").zip (tupN row).items).take l).filter fun p => decide (0 < p.2) || !bare).map (·.1)) := fun z => by
            obtain ⟨q, hq, e⟩ := List.mem_map.mp z
            have hq2 := (List.mem_filter.mp hq).1
            obtain ⟨i', hi', eq⟩ := List.mem_iff_getElem?.mp hq2 |>.imp fun i h => (⟨(List.getElem?_eq_some_iff.mp h).1, h⟩ : _ ∧ _)
            rw [List.length_take] at hi'
            rw [List.getElem?_take_of_lt (by omega), List.getElem?_zip_eq_some] at eq
            rw [List.getElem?_zip_eq_some] at hx
            have e1 := eq.1
            have e2 := hx.1
            rw [e] at e1
            have h1 : i' < (signs "abcd").length := (List.getElem?_eq_some_iff.mp e1).1
            have h2 : l < (signs "abcd").length := (List.getElem?_eq_some_iff.mp e2).1
            exact absurd ((List.getElem?_eq_some_iff.mp e1).2.trans (List.getElem?_eq_some_iff.mp e2).2.symm) (List.pairwise_iff_getElem.mp abcd_nodup i' l h1 h2 (by omega))
          refine s_dput (K := K) (κ := Str) (α := Int) (k := nm) (x := num) rfl (m16.gr g17.pure) (ev_var rfl (rep_s g17 ru2)) (ek_str (ev_var rfl (rep_s g17 ru1))) ?_ fun W18 g18 o18 m18 => ⟨W18, rfl, _, _, rfl, (g16'.trans (Grow.s (g16.trans g17.pure))).trans g18, ?_⟩
          · refine Nat.lt_of_le_of_lt (List.length_filter_le _ _) ?_
            rw [List.length_take, List.length_zip, abcd_len]
            omega
          · rw [kput_fresh fr] at m18
            rw [tk, List.filter_append, List.filter_cons, if_pos hb]
            exact m18
        · rw [tk, List.filter_append, List.filter_cons, if_neg (by rw [hb]; exact Bool.false_ne_true), List.filter_nil, List.append_nil]
          exact m16.gr g17.pure
      · rintro σ' W16 ⟨v12, v13, rfl, g16, m16⟩
        rw [List.take_length] at m16
        obtain ⟨ow, how, daw, exw, mdw⟩ := m16.fix
        have gwall : Grow W13 W16 := Md.fresh (S := []) gw ((Grow.s g15.pure).trans g16) hw
        have gw17 : Grow W13 (W16.fix w ow how) := mdw W13 [] gwall hw
        generalize hW17 : W16.fix w ow how = W17 at daw exw mdw gw17
        have hH17 : W16.H = W17.H := by rw [← hW17]; rfl
        rw [hH17]
        have o17 : Grow W11 W17 := o11.trans gw17
        have hfit : (if bare then row.filter fun k => Nat.blt 0 k else row).length ≤ 1000 := by
          split
          · exact Nat.le_trans (List.length_filter_le _ _) (by omega)
          · omega
        -- found = holds(sizes, wanted)
        refine q_asg (ε := pur) (K := K) (x := holdsN lots (sortN (if bare then row.filter fun k => Nat.blt 0 k else row))) (EvP.toR (ev_callP2 (P := fun v W => DictAt K W v (⟨kv⟩ : Dict Int Int)) (P2 := fun v W => DictAt K W v (⟨wantF bare (signs "abcd") (ups row)⟩ : Dict Str Int)) (ev_dvar rfl (d11.g o17)) (ev_dvar rfl daw) (fun v W W' g h => h.s g)
          fun u u2 W7 g7 d1 d2 Q k => ⟨W7, u, u2, kv, _, lots, _, rfl, rfl, d1, d2, fun q hq => ?_, by have := sz.l; omega, sz.r, want_vals bare (signs "abcd") row (by rw [abcd_len]; omega), hfit, fun W8 g8 => k _ W8 (.of g8) rfl⟩)) trivial fun vf W18 g18 rf => ?_
        · have := sz.b q hq
          omega
        refine s_when (ε := pur) (b := false) ((et_or (a := false) ((et_not (et_B (ev_cb2 (ev_var rfl rf) ev_raw (rc_isi (b := true) ty_bl (by decide +kernel))))).is rfl) fun _ => et_test (ev_op (ev_var rfl rf) (ev_op (ev_var (x := tupN row) rfl (rep_s g18 (rep_g gw17 rr))) (ev_var (x := rows.map tupN) rfl (rep_s g18 (rep_g o17 rs11))) (ro_inL (by decide))) ro_neB)).is ?_) trivial (fun h => by cases h) fun _ W19 g19 => ⟨W19, rfl, _, _, _, _, _, rfl, (((g13'.trans g13).trans gw17).trans g18.pure).trans g19.pure⟩
        have h1 := ok_row hok hrm
        have h2 : tupN row ∈ rows.map tupN ↔ row ∈ sumsN many lots := by
          rw [← hrows]
          exact ⟨fun h => by
            obtain ⟨x, hx, e⟩ := List.mem_map.mp h
            rw [← tupN_inj e]; exact hx, fun h => List.mem_map.mpr ⟨row, h, rfl⟩⟩
        have h3 : holdsN lots (sortN (if bare then row.filter fun k => Nat.blt 0 k else row)) = decide (tupN row ∈ rows.map tupN) := by
          rw [Bool.eq_iff_iff, decide_eq_true_eq, h2]
          cases bare with
          | true => exact h1.2
          | false => exact h1.1
        rw [h3]
        simp
    · rintro σ' W13 ⟨v10, v11, v12, v13, v14, rfl, g13⟩
      refine ⟨W13, rfl, _, _, _, _, _, _, _, _, _, _, _, _, _, rfl, ?_, (s11.g g12.pure).g g13⟩
      have o910 : On W9 W10 := by
        rw [← hW10]
        exact ⟨ex_fix hod m9b, fun _ _ _ h => h⟩
      exact o3.trans (g4.on.trans (g5.on.trans (gd.on.trans (g7.on.trans (g8.on.trans (g9.on.trans (o910.trans (g11.on.trans (g12.on.trans g13.on)))))))))
  · rintro σ' W3 ⟨v2, v3, v4, v5, v6, v7, v8, v9, v10, v11, v12, v13, v14, rfl, o3, s3⟩
    refine s_ret (ε := pur) (K := K) (x := true) ev_bl trivial fun v W4 _ r => ?_
    rw [show v = _ from r]
    exact k _
end
end B
namespace B
open PySem L2 PyProof.Rows PySem.Spec
open Evl (Ex)
def top (i : Nat) : Stmt := PySem.Challenge.pw_bygone_k21_whole_sums_of_sets.main.body.getD i (.Pass ⟨0, 0, 0, 0⟩)
/-! reach -/
abbrev s_reach : Stmt := top 1
theorem sc_reach : FnScope n_reach ["sizes", "many"] (defScope s_reach) := ⟨rfl, rfl, rfl, by decide +kernel, rfl, by decide +kernel, by decide +kernel⟩
/-! holds -/
abbrev s_holds : Stmt := top 2
theorem sc_holds : FnScope n_holds ["sizes", "wanted"] (defScope s_holds) := ⟨rfl, rfl, rfl, by decide +kernel, rfl, by decide +kernel, by decide +kernel⟩
/-! _law_begun -/
abbrev s__law_begun : Stmt := top 4
theorem sc__law_begun : FnScope n__law_begun ["_law_script"] (defScope s__law_begun) := ⟨rfl, rfl, rfl, by decide +kernel, rfl, by decide +kernel, by decide +kernel⟩
/-! _law_draw -/
abbrev s__law_draw : Stmt := top 5
theorem sc__law_draw : FnScope n__law_draw ["_law_state", "_law_many"] (defScope s__law_draw) := ⟨rfl, rfl, rfl, by decide +kernel, rfl, by decide +kernel, by decide +kernel⟩
/-! _law_pick -/
abbrev s__law_pick : Stmt := top 6
theorem sc__law_pick : FnScope n__law_pick ["_law_state", "_law_some"] (defScope s__law_pick) := ⟨rfl, rfl, rfl, by decide +kernel, rfl, by decide +kernel, by decide +kernel⟩
/-! _law_longer -/
abbrev s__law_longer : Stmt := top 8
theorem sc__law_longer : FnScope n__law_longer ["_law_rows_here"] (defScope s__law_longer) := ⟨rfl, rfl, rfl, by decide +kernel, rfl, by decide +kernel, by decide +kernel⟩
/-! _law_subsets -/
abbrev s__law_subsets : Stmt := top 7
theorem sc__law_subsets : FnScope n__law_subsets ["_law_many", "_law_size"] (defScope s__law_subsets) := ⟨rfl, rfl, rfl, by decide +kernel, rfl, by decide +kernel, by decide +kernel⟩
/-! _law_sums -/
abbrev s__law_sums : Stmt := top 9
theorem sc__law_sums : FnScope n__law_sums ["_law_many", "_law_lots"] (defScope s__law_sums) := ⟨rfl, rfl, rfl, by decide +kernel, rfl, by decide +kernel, by decide +kernel⟩
/-! _law_rows -/
abbrev s__law_rows : Stmt := top 10
theorem sc__law_rows : FnScope n__law_rows ["_law_many", "_law_most"] (defScope s__law_rows) := ⟨rfl, rfl, rfl, by decide +kernel, rfl, by decide +kernel, by decide +kernel⟩
/-! law -/
abbrev s_law : Stmt := top 11
theorem sc_law : FnScope n_law ["_law_script"] (defScope s_law) := ⟨rfl, rfl, rfl, by decide +kernel, rfl, by decide +kernel, by decide +kernel⟩

structure Tx (K : Fg) (mg : Str → Option Value) where
  m_sum : mg "sum" = none
  m_min : mg "min" = none
  m_sorted : mg "sorted" = none
  m_enumerate : mg "enumerate" = none
  m_abs : mg "abs" = none
  m_len : mg "len" = none
  m_range : mg "range" = none
  m_tuple : mg "tuple" = none
  m_zip : mg "zip" = none
  m_list : mg "list" = none
  m_isinstance : mg "isinstance" = none
  m_bool : mg "bool" = none
  f_reach : Addr
  d_reach : FuncData
  F_reach : Fun K "reach" "reach" s_reach f_reach d_reach
  b_reach : Binds K d_reach ["sizes", "many"] []
  g_reach : mg "reach" = some (.ref f_reach)
  f_holds : Addr
  d_holds : FuncData
  F_holds : Fun K "holds" "holds" s_holds f_holds d_holds
  b_holds : Binds K d_holds ["sizes", "wanted"] []
  g_holds : mg "holds" = some (.ref f_holds)
  f__law_begun : Addr
  d__law_begun : FuncData
  F__law_begun : Fun K "_law_begun" "_law_begun" s__law_begun f__law_begun d__law_begun
  b__law_begun : Binds K d__law_begun ["_law_script"] []
  g__law_begun : mg "_law_begun" = some (.ref f__law_begun)
  f__law_draw : Addr
  d__law_draw : FuncData
  F__law_draw : Fun K "_law_draw" "_law_draw" s__law_draw f__law_draw d__law_draw
  b__law_draw : Binds K d__law_draw ["_law_state", "_law_many"] []
  g__law_draw : mg "_law_draw" = some (.ref f__law_draw)
  f__law_pick : Addr
  d__law_pick : FuncData
  F__law_pick : Fun K "_law_pick" "_law_pick" s__law_pick f__law_pick d__law_pick
  b__law_pick : Binds K d__law_pick ["_law_state", "_law_some"] []
  g__law_pick : mg "_law_pick" = some (.ref f__law_pick)
  f__law_longer : Addr
  d__law_longer : FuncData
  F__law_longer : Fun K "_law_longer" "_law_longer" s__law_longer f__law_longer d__law_longer
  b__law_longer : Binds K d__law_longer ["_law_rows_here"] []
  g__law_longer : mg "_law_longer" = some (.ref f__law_longer)
  f__law_subsets : Addr
  d__law_subsets : FuncData
  F__law_subsets : Fun K "_law_subsets" "_law_subsets" s__law_subsets f__law_subsets d__law_subsets
  b__law_subsets : Binds K d__law_subsets ["_law_many", "_law_size"] []
  g__law_subsets : mg "_law_subsets" = some (.ref f__law_subsets)
  f__law_sums : Addr
  d__law_sums : FuncData
  F__law_sums : Fun K "_law_sums" "_law_sums" s__law_sums f__law_sums d__law_sums
  b__law_sums : Binds K d__law_sums ["_law_many", "_law_lots"] []
  g__law_sums : mg "_law_sums" = some (.ref f__law_sums)
  f__law_rows : Addr
  d__law_rows : FuncData
  F__law_rows : Fun K "_law_rows" "_law_rows" s__law_rows f__law_rows d__law_rows
  b__law_rows : Binds K d__law_rows ["_law_many", "_law_most"] []
  g__law_rows : mg "_law_rows" = some (.ref f__law_rows)
  f_law : Addr
  d_law : FuncData
  F_law : Fun K "law" "law" s_law f_law d_law

section
variable {P : Program} {w : World} {K : Fg} {mg : Str → Option Value} {base : Heap}
theorem der_reach (T : Tx K mg) {cdv : Value} {A : Around} {outer : List Env} {s : Shared} {H : Hp} {E : XK} (hr : Room 0 (A.deeper (envOfC "reach" (defScope s_reach) s.heap.objs.size T.f_reach cdv))) :
    PSs (cxOf CX0 P w K mg base n_reach "reach" (defScope s_reach) T.f_reach cdv A outer s H E).nox (defBody s_reach) (t_reach K) :=
  have nd := sc_reach.nd
  (pss_one (ps_ret (pe_callB (cr_sum rfl) (by rfl) T.m_sum (by decide +kernel) (pa_cons (pe_lock (pe_lc (own := [("size", 2), ("times", 3)]) rfl nd (pi_items (pv 0)) (blkOk_by (own := [("size", 2), ("times", 3)]) (N := n_reach) (sc := defScope s_reach) (by decide +kernel)) (fun _ _ _ _ _ => (pg_tup rfl (pgs_cons (pg_name (i := 2) nd rfl (by first | exact Or.inl rfl | exact Or.inr rfl)) (pgs_cons (pg_name (i := 3) nd rfl (by first | exact Or.inl rfl | exact Or.inr rfl)) pgs_nil)))) (fun _ _ _ _ _ => pts_nil) (fun _ _ _ _ _ => (pe_op op_mul (pv 3) (pe_callB (cr_min2 rfl) (by rfl) T.m_min (by decide +kernel) (pa_cons (pv 2) (pa_cons (pv 1) pa_nil))))))) pa_nil))))
theorem ok_reach (T : Tx K mg) : FnOk P w K mg base CX0 1 T.f_reach T.d_reach ["sizes", "many"] (sp_reach K) :=
  T.F_reach.ok sc_reach (fun vs H Q E h => len_reach h) (fun cdv A outer s H vs Q E hr h => ⟨t_reach K, der_reach T hr, rd_reach h⟩)
theorem der_holds (T : Tx K mg) {cdv : Value} {A : Around} {outer : List Env} {s : Shared} {H : Hp} {E : XK} (hr : Room 1 (A.deeper (envOfC "holds" (defScope s_holds) s.heap.objs.size T.f_holds cdv))) :
    PSs (cxOf CX0 P w K mg base n_holds "holds" (defScope s_holds) T.f_holds cdv A outer s H E).nox (defBody s_holds) (t_holds K) :=
  have nd := sc_holds.nd
  (pss_cons (ps_set (i := 2) nd rfl (Or.inl rfl) (pe_callBK (cr_sortedVR rfl) (by rfl) T.m_sorted (by decide +kernel) (pa_cons (pe_vals (pv 1)) pa_nil) (pk_cons pe_bl pk_nil)))
  (pss_cons (ps_if (pt_cmpR op_ne (pe_callB (cr_sum rfl) (by rfl) T.m_sum (by decide +kernel) (pa_cons (pv 2) pa_nil)) (pe_call (ok_reach T) (hr.mono (by decide)) (by rfl) T.g_reach T.F_reach.kp T.b_reach .nil pass0 (pa_cons (pv 0) (pa_cons pe_int pa_nil))) (nomark _)) (pss_one (ps_ret pe_bl)) pss_nil)
  (pss_cons (ps_set (i := 3) nd rfl (Or.inl rfl) pe_int)
  (pss_cons (ps_for PassesOwn.never rfl (pi_enum rfl T.m_enumerate (pa_cons (pv 2) pa_nil)) (pg_tup rfl (pgs_cons (pg_name (i := 4) nd rfl (by first | exact Or.inl rfl | exact Or.inr rfl)) (pgs_cons (pg_name (i := 5) nd rfl (by first | exact Or.inl rfl | exact Or.inr rfl)) pgs_nil)))
  (pss_cons (ps_aug (i := 3) nd rfl (Or.inl rfl) (pv 5) ip_add)
  (pss_one (ps_if (pt_cmpR op_gt (pv 3) (pe_call (ok_reach T) (hr.mono (by decide)) (by rfl) T.g_reach T.F_reach.kp T.b_reach .nil pass0 (pa_cons (pv 0) (pa_cons (pe_op op_add (pv 4) pe_int) pa_nil))) (nomark _)) (pss_one (ps_ret pe_bl)) pss_nil))))
  (pss_one (ps_ret pe_bl))))))
theorem ok_holds (T : Tx K mg) : FnOk P w K mg base CX0 2 T.f_holds T.d_holds ["sizes", "wanted"] (sp_holds K) :=
  T.F_holds.ok sc_holds (fun vs H Q E h => len_holds h) (fun cdv A outer s H vs Q E hr h => ⟨t_holds K, der_holds T hr, rd_holds h⟩)
theorem der__law_begun (T : Tx K mg) {cdv : Value} {A : Around} {outer : List Env} {s : Shared} {H : Hp} {E : XK} (hr : Room 0 (A.deeper (envOfC "_law_begun" (defScope s__law_begun) s.heap.objs.size T.f__law_begun cdv))) :
    PSs (cxOf CX0 P w K mg base n__law_begun "_law_begun" (defScope s__law_begun) T.f__law_begun cdv A outer s H E).nox (defBody s__law_begun) (t__law_begun K) :=
  have nd := sc__law_begun.nd
  (pss_cons (ps_setLc (i := 1) (own := [("_law_cell", 2)]) rfl nd rfl rfl (sw_true rfl rfl rfl (by decide +kernel)) (pi_list (pv 0)) (blkOk_by (own := [("_law_cell", 2)]) (N := n__law_begun) (sc := defScope s__law_begun) (by decide +kernel)) (fun _ _ _ _ _ => (pg_name (i := 2) nd rfl (by first | exact Or.inl rfl | exact Or.inr rfl))) (fun _ _ _ _ _ => pts_nil) (fun _ _ _ _ _ => (pe_callB cr_abs (by rfl) T.m_abs (by decide +kernel) (pa_cons (pv 2) pa_nil))))
  (pss_cons (ps_if (pt_cmpR (op_eqT hr.units) (pv 1) (pe_lst pa_nil) (nomark _)) (pss_one (ps_set (i := 1) nd rfl (Or.inl rfl) (pe_lst (pa_cons pe_int pa_nil)))) pss_nil)
  (pss_one (ps_ret (pe_lst (pa_cons (pv 1) (pa_cons pe_int (pa_cons pe_int pa_nil))))))))
theorem ok__law_begun (T : Tx K mg) : FnOk P w K mg base CX0 1 T.f__law_begun T.d__law_begun ["_law_script"] (sp__law_begun K) :=
  T.F__law_begun.ok sc__law_begun (fun vs H Q E h => len__law_begun h) (fun cdv A outer s H vs Q E hr h => ⟨t__law_begun K, der__law_begun T hr, rd__law_begun h⟩)
theorem der__law_draw (T : Tx K mg) {cdv : Value} {A : Around} {outer : List Env} {s : Shared} {H : Hp} {E : XK} (hr : Room 0 (A.deeper (envOfC "_law_draw" (defScope s__law_draw) s.heap.objs.size T.f__law_draw cdv))) :
    PSs (cxOf CX0 P w K mg base n__law_draw "_law_draw" (defScope s__law_draw) T.f__law_draw cdv A outer s H E).nox (defBody s__law_draw) (t__law_draw K) :=
  have nd := sc__law_draw.nd
  (pss_cons (ps_set (i := 2) nd rfl (Or.inl rfl) (pe_ix ix_list (pv 0) pe_int (fun _ _ => rfl)))
  (pss_cons (ps_set (i := 3) nd rfl (Or.inl rfl) (pe_op op_mod (pe_ix ix_list (pv 0) pe_int (fun _ _ => rfl)) (pe_callB cr_len (by rfl) T.m_len (by decide +kernel) (pa_cons (pv 2) pa_nil))))
  (pss_cons (ps_set (i := 4) nd rfl (Or.inl rfl) (pe_ix ix_list (pv 2) (pv 3) (fun _ _ => rfl)))
  (pss_cons (ps_if (pt_cmpR op_ge (pv 4) (pe_op op_pow pe_int pe_int) (nomark _)) (pss_cons (ps_asg (pe_op op_fdiv (pv 4) (pv 1)) (pg_sub (pv 2) (pv 3) set_list))
  (pss_one (ps_ret (pe_op op_mod (pv 4) (pv 1))))) pss_nil)
  (pss_cons (ps_asg (pe_op op_add (pe_ix ix_list (pv 0) pe_int (fun _ _ => rfl)) pe_int) (pg_sub (pv 0) pe_int set_list))
  (pss_cons (ps_asg (pe_op op_mod (pe_op op_add (pe_op op_add (pe_op op_mul (pe_ix ix_list (pv 0) pe_int (fun _ _ => rfl)) pe_int) (pv 4)) pe_int) pe_int) (pg_sub (pv 0) pe_int set_list))
  (pss_one (ps_ret (pe_op op_mod (pe_op op_fdiv (pe_op op_mod (pe_op op_mul (pe_ix ix_list (pv 0) pe_int (fun _ _ => rfl)) (pe_ix ix_list (pv 0) pe_int (fun _ _ => rfl))) pe_int) pe_int) (pv 1))))))))))
theorem ok__law_draw (T : Tx K mg) : FnOk P w K mg base CX0 1 T.f__law_draw T.d__law_draw ["_law_state", "_law_many"] (sp__law_draw K) :=
  T.F__law_draw.ok sc__law_draw (fun vs H Q E h => len__law_draw h) (fun cdv A outer s H vs Q E hr h => ⟨t__law_draw K, der__law_draw T hr, rd__law_draw h⟩)
theorem der__law_pick (T : Tx K mg) {cdv : Value} {A : Around} {outer : List Env} {s : Shared} {H : Hp} {E : XK} (hr : Room 1 (A.deeper (envOfC "_law_pick" (defScope s__law_pick) s.heap.objs.size T.f__law_pick cdv))) :
    PSs (cxOf CX0 P w K mg base n__law_pick "_law_pick" (defScope s__law_pick) T.f__law_pick cdv A outer s H E).nox (defBody s__law_pick) (t__law_pick K) :=
  have nd := sc__law_pick.nd
  (pss_one (ps_ret (pe_ix ix_list (pv 1) (pe_call (ok__law_draw T) (hr.mono (by decide)) (by rfl) T.g__law_draw T.F__law_draw.kp T.b__law_draw .nil pass0 (pa_cons (pv 0) (pa_cons (pe_callB cr_len (by rfl) T.m_len (by decide +kernel) (pa_cons (pv 1) pa_nil)) pa_nil))) (fun _ _ => rfl))))
theorem ok__law_pick (T : Tx K mg) : FnOk P w K mg base CX0 2 T.f__law_pick T.d__law_pick ["_law_state", "_law_some"] (sp__law_pick K) :=
  T.F__law_pick.ok sc__law_pick (fun vs H Q E h => len__law_pick h) (fun cdv A outer s H vs Q E hr h => ⟨t__law_pick K, der__law_pick T hr, rd__law_pick h⟩)
theorem der__law_longer (T : Tx K mg) {cdv : Value} {A : Around} {outer : List Env} {s : Shared} {H : Hp} {E : XK} (hr : Room 0 (A.deeper (envOfC "_law_longer" (defScope s__law_longer) s.heap.objs.size T.f__law_longer cdv))) :
    PSs (cxOf CX0 P w K mg base n__law_longer "_law_longer" (defScope s__law_longer) T.f__law_longer cdv A outer s H E).nox (defBody s__law_longer) (t__law_longer K) :=
  have nd := sc__law_longer.nd
  (pss_one (ps_ret (pe_op op_cat (pe_lc (own := [("_law_row", 1)]) rfl nd (pi_list (pv 0)) (blkOk_by (own := [("_law_row", 1)]) (N := n__law_longer) (sc := defScope s__law_longer) (by decide +kernel)) (fun _ _ _ _ _ => (pg_name (i := 1) nd rfl (by first | exact Or.inl rfl | exact Or.inr rfl))) (fun _ _ _ _ _ => pts_nil) (fun _ _ _ _ _ => (pe_op op_catA (pv 1) (pe_tup (pa_cons pe_int pa_nil))))) (pe_lc (own := [("_law_row", 1)]) rfl nd (pi_list (pv 0)) (blkOk_by (own := [("_law_row", 1)]) (N := n__law_longer) (sc := defScope s__law_longer) (by decide +kernel)) (fun _ _ _ _ _ => (pg_name (i := 1) nd rfl (by first | exact Or.inl rfl | exact Or.inr rfl))) (fun _ _ _ _ _ => pts_nil) (fun _ _ _ _ _ => (pe_op op_catA (pv 1) (pe_tup (pa_cons pe_int pa_nil))))))))
theorem ok__law_longer (T : Tx K mg) : FnOk P w K mg base CX0 1 T.f__law_longer T.d__law_longer ["_law_rows_here"] (sp__law_longer K) :=
  T.F__law_longer.ok sc__law_longer (fun vs H Q E h => len__law_longer h) (fun cdv A outer s H vs Q E hr h => ⟨t__law_longer K, der__law_longer T hr, rd__law_longer h⟩)
theorem der__law_subsets (T : Tx K mg) {cdv : Value} {A : Around} {outer : List Env} {s : Shared} {H : Hp} {E : XK} (hr : Room 1 (A.deeper (envOfC "_law_subsets" (defScope s__law_subsets) s.heap.objs.size T.f__law_subsets cdv))) :
    PSs (cxOf CX0 P w K mg base n__law_subsets "_law_subsets" (defScope s__law_subsets) T.f__law_subsets cdv A outer s H E).nox (defBody s__law_subsets) (t__law_subsets K) :=
  have nd := sc__law_subsets.nd
  (pss_cons (ps_set (i := 2) nd rfl (Or.inl rfl) (pe_lst (pa_cons (pe_tup pa_nil) pa_nil)))
  (pss_cons (ps_for PassesOwn.never rfl (pi_range1 rfl T.m_range (pa_cons (pv 0) pa_nil)) (pg_name (i := 3) nd rfl (by first | exact Or.inl rfl | exact Or.inr rfl))
  (pss_one (ps_set (i := 2) nd rfl (Or.inl rfl) (pe_call (ok__law_longer T) (hr.mono (by decide)) (by rfl) T.g__law_longer T.F__law_longer.kp T.b__law_longer .nil pass0 (pa_cons (pv 2) pa_nil)))))
  (pss_one (ps_ret (pe_lc (own := [("_law_row", 4)]) rfl nd (pi_list (pv 2)) (blkOk_by (own := [("_law_row", 4)]) (N := n__law_subsets) (sc := defScope s__law_subsets) (by decide +kernel)) (fun _ _ _ _ _ => (pg_name (i := 4) nd rfl (by first | exact Or.inl rfl | exact Or.inr rfl))) (fun _ _ _ _ _ => (pts_one (pt_cmpR op_eq (pe_callB (cr_sumT rfl) (by rfl) T.m_sum (by decide +kernel) (pa_cons (pv 4) pa_nil)) (pv 1) (nomark _)))) (fun _ _ _ _ _ => (pv 4)))))))
theorem ok__law_subsets (T : Tx K mg) : FnOk P w K mg base CX0 2 T.f__law_subsets T.d__law_subsets ["_law_many", "_law_size"] (sp__law_subsets K) :=
  T.F__law_subsets.ok sc__law_subsets (fun vs H Q E h => len__law_subsets h) (fun cdv A outer s H vs Q E hr h => ⟨t__law_subsets K, der__law_subsets T hr, rd__law_subsets h⟩)
theorem der__law_sums (T : Tx K mg) {cdv : Value} {A : Around} {outer : List Env} {s : Shared} {H : Hp} {E : XK} (hr : Room 2 (A.deeper (envOfC "_law_sums" (defScope s__law_sums) s.heap.objs.size T.f__law_sums cdv))) :
    PSs (cxOf CX0 P w K mg base n__law_sums "_law_sums" (defScope s__law_sums) T.f__law_sums cdv A outer s H E).nox (defBody s__law_sums) (t__law_sums K) :=
  have nd := sc__law_sums.nd
  (pss_cons (ps_set (i := 2) nd rfl (Or.inl rfl) (pe_lst (pa_cons (pe_op op_repT1 (pe_tup (pa_cons pe_int pa_nil)) (pv 0)) pa_nil)))
  (pss_cons (ps_for PassesOwn.never rfl (pi_list (pv 1)) (pg_name (i := 3) nd rfl (by first | exact Or.inl rfl | exact Or.inr rfl))
  (pss_cons (ps_set (i := 4) nd rfl (Or.inl rfl) pe_dnewT)
  (pss_cons (ps_for PassesOwn.never rfl (pi_list (pv 2)) (pg_name (i := 5) nd rfl (by first | exact Or.inl rfl | exact Or.inr rfl))
  (pss_one (ps_for PassesOwn.never rfl (pi_list (pe_call (ok__law_subsets T) (hr.mono (by decide)) (by rfl) T.g__law_subsets T.F__law_subsets.kp T.b__law_subsets .nil pass0 (pa_cons (pv 0) (pa_cons (pv 3) pa_nil)))) (pg_name (i := 6) nd rfl (by first | exact Or.inl rfl | exact Or.inr rfl))
  (pss_one (ps_dput (hu_of hr) (pv 4) (pe_callTy cr_tupleO (by rfl) T.m_tuple (by decide +kernel) (pa_cons (pe_lc (own := [("_law_a", 7), ("_law_b", 8)]) rfl nd (RZ.pi_zipA rfl T.m_zip (pa_cons (pv 5) (pa_cons (pv 6) pa_nil))) (blkOk_by (own := [("_law_a", 7), ("_law_b", 8)]) (N := n__law_sums) (sc := defScope s__law_sums) (by decide +kernel)) (fun _ _ _ _ _ => (pg_tup rfl (pgs_cons (pg_name (i := 7) nd rfl (by first | exact Or.inl rfl | exact Or.inr rfl)) (pgs_cons (pg_name (i := 8) nd rfl (by first | exact Or.inl rfl | exact Or.inr rfl)) pgs_nil)))) (fun _ _ _ _ _ => pts_nil) (fun _ _ _ _ _ => (pe_op op_add (pv 7) (pv 8)))) pa_nil)) pe_bl rfl)))))
  (pss_one (ps_set (i := 2) nd rfl (Or.inl rfl) (pe_callTy (call_list_dT rfl) (by rfl) T.m_list (by decide +kernel) (pa_cons (pv 4) pa_nil)))))))
  (pss_one (ps_ret (pv 2)))))
theorem ok__law_sums (T : Tx K mg) : FnOk P w K mg base CX0 3 T.f__law_sums T.d__law_sums ["_law_many", "_law_lots"] (sp__law_sums K) :=
  T.F__law_sums.ok sc__law_sums (fun vs H Q E h => len__law_sums h) (fun cdv A outer s H vs Q E hr h => ⟨t__law_sums K, der__law_sums T hr, rd__law_sums h⟩)
theorem der__law_rows (T : Tx K mg) {cdv : Value} {A : Around} {outer : List Env} {s : Shared} {H : Hp} {E : XK} (hr : Room 0 (A.deeper (envOfC "_law_rows" (defScope s__law_rows) s.heap.objs.size T.f__law_rows cdv))) :
    PSs (cxOf CX0 P w K mg base n__law_rows "_law_rows" (defScope s__law_rows) T.f__law_rows cdv A outer s H E).nox (defBody s__law_rows) (t__law_rows K) :=
  have nd := sc__law_rows.nd
  (pss_cons (ps_set (i := 2) nd rfl (Or.inl rfl) (pe_lst (pa_cons (pe_tup pa_nil) pa_nil)))
  (pss_cons (ps_for PassesOwn.never rfl (pi_range1 rfl T.m_range (pa_cons (pv 0) pa_nil)) (pg_name (i := 3) nd rfl (by first | exact Or.inl rfl | exact Or.inr rfl))
  (pss_cons (ps_set (i := 4) nd rfl (Or.inl rfl) (pe_lst pa_nil))
  (pss_cons (ps_for PassesOwn.never rfl (pi_list (pv 2)) (pg_name (i := 5) nd rfl (by first | exact Or.inl rfl | exact Or.inr rfl))
  (pss_one (ps_set (i := 4) nd rfl (Or.inl rfl) (pe_op op_cat (pv 4) (pe_lc (own := [("_law_number", 6)]) rfl nd (pi_range1 rfl T.m_range (pa_cons (pe_op op_add (pv 1) pe_int) pa_nil)) (blkOk_by (own := [("_law_number", 6)]) (N := n__law_rows) (sc := defScope s__law_rows) (by decide +kernel)) (fun _ _ _ _ _ => (pg_name (i := 6) nd rfl (by first | exact Or.inl rfl | exact Or.inr rfl))) (fun _ _ _ _ _ => pts_nil) (fun _ _ _ _ _ => (pe_op op_catA (pv 5) (pe_tup (pa_cons (pv 6) pa_nil)))))))))
  (pss_one (ps_set (i := 2) nd rfl (Or.inl rfl) (pv 4))))))
  (pss_one (ps_ret (pv 2)))))
theorem ok__law_rows (T : Tx K mg) : FnOk P w K mg base CX0 1 T.f__law_rows T.d__law_rows ["_law_many", "_law_most"] (sp__law_rows K) :=
  T.F__law_rows.ok sc__law_rows (fun vs H Q E h => len__law_rows h) (fun cdv A outer s H vs Q E hr h => ⟨t__law_rows K, der__law_rows T hr, rd__law_rows h⟩)
theorem der_law (T : Tx K mg) {cdv : Value} {A : Around} {outer : List Env} {s : Shared} {H : Hp} {E : XK} (hr : Room 3 (A.deeper (envOfC "law" (defScope s_law) s.heap.objs.size T.f_law cdv))) :
    PSs (cxOf CX0 P w K mg base n_law "law" (defScope s_law) T.f_law cdv A outer s H E).nox (defBody s_law) (t_law K) :=
  have nd := sc_law.nd
  (pss_cons (ps_set (i := 1) nd rfl (Or.inr rfl) (pe_call (ok__law_begun T) (hr.mono (by decide)) (by rfl) T.g__law_begun T.F__law_begun.kp T.b__law_begun .nil pass0 (pa_cons (pv 0) pa_nil)))
  (pss_cons (ps_for PassesOwn.never rfl (pi_range1 rfl T.m_range (pa_cons pe_int pa_nil)) (pg_name (i := 2) nd rfl (by first | exact Or.inl rfl | exact Or.inr rfl))
  (pss_cons (ps_set (i := 3) nd rfl (Or.inl rfl) (pe_op op_add pe_int (pe_call (ok__law_draw T) (hr.mono (by decide)) (by rfl) T.g__law_draw T.F__law_draw.kp T.b__law_draw .nil pass0 (pa_cons (pv 1) (pa_cons pe_int pa_nil)))))
  (pss_cons (ps_setLc (i := 4) (own := [("_law_k", 5)]) rfl nd rfl rfl (sw_true rfl rfl rfl (by decide +kernel)) (pi_range1 rfl T.m_range (pa_cons (pe_call (ok__law_draw T) (hr.mono (by decide)) (by rfl) T.g__law_draw T.F__law_draw.kp T.b__law_draw .nil pass0 (pa_cons (pv 1) (pa_cons (pe_ix ix_list (pe_lst (pa_cons pe_int (pa_cons pe_int (pa_cons pe_int (pa_cons pe_int pa_nil))))) (pe_op op_sub (pv 3) pe_int) (fun _ _ => rfl)) pa_nil))) pa_nil)) (blkOk_by (own := [("_law_k", 5)]) (N := n_law) (sc := defScope s_law) (by decide +kernel)) (fun _ _ _ _ _ => (pg_name (i := 5) nd rfl (by first | exact Or.inl rfl | exact Or.inr rfl))) (fun _ _ _ _ _ => pts_nil) (fun _ _ _ _ _ => (pe_op op_add pe_int (pe_call (ok__law_draw T) (hr.mono (by decide)) (by rfl) T.g__law_draw T.F__law_draw.kp T.b__law_draw .nil pass0 (pa_cons (pv 1) (pa_cons pe_int pa_nil))))))
  (pss_cons (ps_set (i := 6) nd rfl (Or.inl rfl) pe_dnewK)
  (pss_cons (ps_for PassesOwn.never rfl (pi_list (pv 4)) (pg_name (i := 7) nd rfl (by first | exact Or.inl rfl | exact Or.inr rfl))
  (pss_one (ps_dput (hu_of hr) (pv 6) (pv 7) (pe_op op_add (pe_dget2 (hu_of hr) (pv 6) (pv 7) pe_int ⟨rfl, rfl, rfl, rfl⟩) pe_int) rfl)))
  (pss_cons (ps_if (pt_cmpR op_eq (pe_call (ok__law_draw T) (hr.mono (by decide)) (by rfl) T.g__law_draw T.F__law_draw.kp T.b__law_draw .nil pass0 (pa_cons (pv 1) (pa_cons pe_int pa_nil))) pe_int (nomark _)) (pss_one (ps_expr (pe_dsetd (pv 6) (pe_op op_add pe_int (pe_call (ok__law_draw T) (hr.mono (by decide)) (by rfl) T.g__law_draw T.F__law_draw.kp T.b__law_draw .nil pass0 (pa_cons (pv 1) (pa_cons pe_int pa_nil)))) pe_int ⟨rfl, rfl, rfl, rfl⟩))) pss_nil)
  (pss_cons (ps_par (i := 8) (j := 9) rfl nd rfl rfl (by decide) rfl rfl (pa_cons (pe_call (ok__law_sums T) (hr.mono (by decide)) (by rfl) T.g__law_sums T.F__law_sums.kp T.b__law_sums .nil pass0 (pa_cons (pv 3) (pa_cons (pv 4) pa_nil))) (pa_cons (pe_cmpR op_eq (pe_call (ok__law_draw T) (hr.mono (by decide)) (by rfl) T.g__law_draw T.F__law_draw.kp T.b__law_draw .nil pass0 (pa_cons (pv 1) (pa_cons pe_int pa_nil))) pe_int (nomark _)) pa_nil)) (by rfl))
  (pss_one (ps_for PassesOwn.never rfl (pi_list (pe_call (ok__law_rows T) (hr.mono (by decide)) (by rfl) T.g__law_rows T.F__law_rows.kp T.b__law_rows .nil pass0 (pa_cons (pv 3) (pa_cons (pe_op op_add (pe_callB cr_len (by rfl) T.m_len (by decide +kernel) (pa_cons (pv 4) pa_nil)) pe_int) pa_nil)))) (pg_name (i := 10) nd rfl (by first | exact Or.inl rfl | exact Or.inr rfl))
  (pss_cons (ps_set (i := 11) nd rfl (Or.inl rfl) pe_dnewK)
  (pss_cons (ps_for PassesOwn.never rfl (pi_zipS rfl T.m_zip (pa_cons pe_str (pa_cons (pv 10) pa_nil))) (pg_tup rfl (pgs_cons (pg_name (i := 12) nd rfl (by first | exact Or.inl rfl | exact Or.inr rfl)) (pgs_cons (pg_name (i := 13) nd rfl (by first | exact Or.inl rfl | exact Or.inr rfl)) pgs_nil)))
  (pss_one (ps_if (PW.pt (pw_or (pt_cmpR op_gt (pv 13) pe_int (nomark _)) (pw_or1 (pt_not (pt_val (pv 9)))))) (pss_one (ps_dput (hu_of hr) (pv 11) (pv 12) (pv 13) rfl)) pss_nil)))
  (pss_cons (ps_set (i := 14) nd rfl (Or.inl rfl) (pe_call (ok_holds T) (hr.mono (by decide)) (by rfl) T.g_holds T.F_holds.kp T.b_holds .nil pass0 (pa_cons (pv 6) (pa_cons (pv 11) pa_nil))))
  (pss_one (ps_if (PW.pt (pw_or (pt_not (pt_val (pe_callB call_isi (by rfl) T.m_isinstance (by decide +kernel) (pa_cons (pv 14) (pa_cons (pe_bltn (by rfl) T.m_bool (by decide +kernel) rfl) pa_nil))))) (pw_or1 (pt_cmpR op_ne (pv 14) (pe_cmpR (op_inTL hr.units) (pv 10) (pv 8) rfl) (nomark _))))) (pss_one (ps_ret pe_bl)) pss_nil))))))))))))))
  (pss_one (ps_ret pe_bl))))
theorem ok_law (T : Tx K mg) : FnOk P w K mg base CX0 4 T.f_law T.d_law ["_law_script"] (sp_law K) :=
  T.F_law.ok sc_law (fun vs H Q E h => len_law h) (fun cdv A outer s H vs Q E hr h => ⟨t_law K, der_law T hr, rd_law h⟩)

end

theorem all_mk {l : PySem.W.OpenLaw} {w : World} {K : Fg} {h : Heap} {mg : Str → Option Value} {fa f_reach f_holds f__law_begun f__law_draw f__law_pick f__law_longer f__law_subsets f__law_sums f__law_rows f_law : Addr} (X : K.In h) (G : h.Ns mainGlobals mg) (hfa : mg "law" = some (.ref fa))
    {od_reach an_reach od_holds an_holds od__law_begun an__law_begun od__law_draw an__law_draw od__law_pick an__law_pick od__law_longer an__law_longer od__law_subsets an__law_subsets od__law_sums an__law_sums od__law_rows an__law_rows od_law an_law : Option Addr} {sl_reach sl_holds sl__law_begun sl__law_draw sl__law_pick sl__law_longer sl__law_subsets sl__law_sums sl__law_rows sl_law : Array (Option Value)} {oc_reach kV_reach dc_reach pm_reach cd_reach ct_reach oc_holds kV_holds dc_holds pm_holds cd_holds ct_holds oc__law_begun kV__law_begun dc__law_begun pm__law_begun cd__law_begun ct__law_begun oc__law_draw kV__law_draw dc__law_draw pm__law_draw cd__law_draw ct__law_draw oc__law_pick kV__law_pick dc__law_pick pm__law_pick cd__law_pick ct__law_pick oc__law_longer kV__law_longer dc__law_longer pm__law_longer cd__law_longer ct__law_longer oc__law_subsets kV__law_subsets dc__law_subsets pm__law_subsets cd__law_subsets ct__law_subsets oc__law_sums kV__law_sums dc__law_sums pm__law_sums cd__law_sums ct__law_sums oc__law_rows kV__law_rows dc__law_rows pm__law_rows cd__law_rows ct__law_rows oc_law kV_law dc_law pm_law cd_law ct_law : Value}
    (z_sum : PySem.W.nsIn K mainGlobals "sum" = some none)
    (z_min : PySem.W.nsIn K mainGlobals "min" = some none)
    (z_sorted : PySem.W.nsIn K mainGlobals "sorted" = some none)
    (z_enumerate : PySem.W.nsIn K mainGlobals "enumerate" = some none)
    (z_abs : PySem.W.nsIn K mainGlobals "abs" = some none)
    (z_len : PySem.W.nsIn K mainGlobals "len" = some none)
    (z_range : PySem.W.nsIn K mainGlobals "range" = some none)
    (z_tuple : PySem.W.nsIn K mainGlobals "tuple" = some none)
    (z_zip : PySem.W.nsIn K mainGlobals "zip" = some none)
    (z_list : PySem.W.nsIn K mainGlobals "list" = some none)
    (z_isinstance : PySem.W.nsIn K mainGlobals "isinstance" = some none)
    (z_bool : PySem.W.nsIn K mainGlobals "bool" = some none)
    (a_reach : PySem.W.nsIn K mainGlobals "reach" = some (some (.ref f_reach)))
    (l_reach : K.lookup f_reach = some ⟨oc_reach, od_reach, .func (PySem.W.fnOf "reach" "reach" (defArgs s_reach) (defBody s_reach) (defScope s_reach) .none kV_reach dc_reach pm_reach an_reach cd_reach ct_reach), sl_reach⟩)
    (c_reach : PySem.W.codeIn K cd_reach "reach" = true)
    (k_reach : PySem.W.keepIn K (.ref f_reach) = true)
    (a_holds : PySem.W.nsIn K mainGlobals "holds" = some (some (.ref f_holds)))
    (l_holds : K.lookup f_holds = some ⟨oc_holds, od_holds, .func (PySem.W.fnOf "holds" "holds" (defArgs s_holds) (defBody s_holds) (defScope s_holds) .none kV_holds dc_holds pm_holds an_holds cd_holds ct_holds), sl_holds⟩)
    (c_holds : PySem.W.codeIn K cd_holds "holds" = true)
    (k_holds : PySem.W.keepIn K (.ref f_holds) = true)
    (a__law_begun : PySem.W.nsIn K mainGlobals "_law_begun" = some (some (.ref f__law_begun)))
    (l__law_begun : K.lookup f__law_begun = some ⟨oc__law_begun, od__law_begun, .func (PySem.W.fnOf "_law_begun" "_law_begun" (defArgs s__law_begun) (defBody s__law_begun) (defScope s__law_begun) .none kV__law_begun dc__law_begun pm__law_begun an__law_begun cd__law_begun ct__law_begun), sl__law_begun⟩)
    (c__law_begun : PySem.W.codeIn K cd__law_begun "_law_begun" = true)
    (k__law_begun : PySem.W.keepIn K (.ref f__law_begun) = true)
    (a__law_draw : PySem.W.nsIn K mainGlobals "_law_draw" = some (some (.ref f__law_draw)))
    (l__law_draw : K.lookup f__law_draw = some ⟨oc__law_draw, od__law_draw, .func (PySem.W.fnOf "_law_draw" "_law_draw" (defArgs s__law_draw) (defBody s__law_draw) (defScope s__law_draw) .none kV__law_draw dc__law_draw pm__law_draw an__law_draw cd__law_draw ct__law_draw), sl__law_draw⟩)
    (c__law_draw : PySem.W.codeIn K cd__law_draw "_law_draw" = true)
    (k__law_draw : PySem.W.keepIn K (.ref f__law_draw) = true)
    (a__law_pick : PySem.W.nsIn K mainGlobals "_law_pick" = some (some (.ref f__law_pick)))
    (l__law_pick : K.lookup f__law_pick = some ⟨oc__law_pick, od__law_pick, .func (PySem.W.fnOf "_law_pick" "_law_pick" (defArgs s__law_pick) (defBody s__law_pick) (defScope s__law_pick) .none kV__law_pick dc__law_pick pm__law_pick an__law_pick cd__law_pick ct__law_pick), sl__law_pick⟩)
    (c__law_pick : PySem.W.codeIn K cd__law_pick "_law_pick" = true)
    (k__law_pick : PySem.W.keepIn K (.ref f__law_pick) = true)
    (a__law_longer : PySem.W.nsIn K mainGlobals "_law_longer" = some (some (.ref f__law_longer)))
    (l__law_longer : K.lookup f__law_longer = some ⟨oc__law_longer, od__law_longer, .func (PySem.W.fnOf "_law_longer" "_law_longer" (defArgs s__law_longer) (defBody s__law_longer) (defScope s__law_longer) .none kV__law_longer dc__law_longer pm__law_longer an__law_longer cd__law_longer ct__law_longer), sl__law_longer⟩)
    (c__law_longer : PySem.W.codeIn K cd__law_longer "_law_longer" = true)
    (k__law_longer : PySem.W.keepIn K (.ref f__law_longer) = true)
    (a__law_subsets : PySem.W.nsIn K mainGlobals "_law_subsets" = some (some (.ref f__law_subsets)))
    (l__law_subsets : K.lookup f__law_subsets = some ⟨oc__law_subsets, od__law_subsets, .func (PySem.W.fnOf "_law_subsets" "_law_subsets" (defArgs s__law_subsets) (defBody s__law_subsets) (defScope s__law_subsets) .none kV__law_subsets dc__law_subsets pm__law_subsets an__law_subsets cd__law_subsets ct__law_subsets), sl__law_subsets⟩)
    (c__law_subsets : PySem.W.codeIn K cd__law_subsets "_law_subsets" = true)
    (k__law_subsets : PySem.W.keepIn K (.ref f__law_subsets) = true)
    (a__law_sums : PySem.W.nsIn K mainGlobals "_law_sums" = some (some (.ref f__law_sums)))
    (l__law_sums : K.lookup f__law_sums = some ⟨oc__law_sums, od__law_sums, .func (PySem.W.fnOf "_law_sums" "_law_sums" (defArgs s__law_sums) (defBody s__law_sums) (defScope s__law_sums) .none kV__law_sums dc__law_sums pm__law_sums an__law_sums cd__law_sums ct__law_sums), sl__law_sums⟩)
    (c__law_sums : PySem.W.codeIn K cd__law_sums "_law_sums" = true)
    (k__law_sums : PySem.W.keepIn K (.ref f__law_sums) = true)
    (a__law_rows : PySem.W.nsIn K mainGlobals "_law_rows" = some (some (.ref f__law_rows)))
    (l__law_rows : K.lookup f__law_rows = some ⟨oc__law_rows, od__law_rows, .func (PySem.W.fnOf "_law_rows" "_law_rows" (defArgs s__law_rows) (defBody s__law_rows) (defScope s__law_rows) .none kV__law_rows dc__law_rows pm__law_rows an__law_rows cd__law_rows ct__law_rows), sl__law_rows⟩)
    (c__law_rows : PySem.W.codeIn K cd__law_rows "_law_rows" = true)
    (k__law_rows : PySem.W.keepIn K (.ref f__law_rows) = true)
    (a_law : PySem.W.nsIn K mainGlobals "law" = some (some (.ref f_law)))
    (l_law : K.lookup f_law = some ⟨oc_law, od_law, .func (PySem.W.fnOf "law" "law" (defArgs s_law) (defBody s_law) (defScope s_law) .none kV_law dc_law pm_law an_law cd_law ct_law), sl_law⟩)
    (c_law : PySem.W.codeIn K cd_law "law" = true)
    (k_law : PySem.W.keepIn K (.ref f_law) = true) :
    ∃ fd : FuncData, (∀ (s : Shared) (v : Value), BindsTo s fd ⟨[v], []⟩ [("_law_script", v)]) ∧ ∀ base : Heap, K.In base → base.Ns mainGlobals mg → FnOk l.prog w K mg base CX0 4 fa fd ["_law_script"] (sp_law K) := by
  have e := hfa.symm.trans (PySem.W.mg_of X G a_law)
  cases e
  have F_reach := fun_mk (st := s_reach) l_reach c_reach k_reach
  have F_holds := fun_mk (st := s_holds) l_holds c_holds k_holds
  have F__law_begun := fun_mk (st := s__law_begun) l__law_begun c__law_begun k__law_begun
  have F__law_draw := fun_mk (st := s__law_draw) l__law_draw c__law_draw k__law_draw
  have F__law_pick := fun_mk (st := s__law_pick) l__law_pick c__law_pick k__law_pick
  have F__law_longer := fun_mk (st := s__law_longer) l__law_longer c__law_longer k__law_longer
  have F__law_subsets := fun_mk (st := s__law_subsets) l__law_subsets c__law_subsets k__law_subsets
  have F__law_sums := fun_mk (st := s__law_sums) l__law_sums c__law_sums k__law_sums
  have F__law_rows := fun_mk (st := s__law_rows) l__law_rows c__law_rows k__law_rows
  have F_law := fun_mk (st := s_law) l_law c_law k_law
  let T : Tx K mg := {
    m_sum := PySem.W.mg_none_of X G z_sum
    m_min := PySem.W.mg_none_of X G z_min
    m_sorted := PySem.W.mg_none_of X G z_sorted
    m_enumerate := PySem.W.mg_none_of X G z_enumerate
    m_abs := PySem.W.mg_none_of X G z_abs
    m_len := PySem.W.mg_none_of X G z_len
    m_range := PySem.W.mg_none_of X G z_range
    m_tuple := PySem.W.mg_none_of X G z_tuple
    m_zip := PySem.W.mg_none_of X G z_zip
    m_list := PySem.W.mg_none_of X G z_list
    m_isinstance := PySem.W.mg_none_of X G z_isinstance
    m_bool := PySem.W.mg_none_of X G z_bool
    f_reach := f_reach
    d_reach := _
    F_reach := F_reach
    b_reach := F_reach.binds (ps := ["sizes", "many"]) fun _ _ _ _ _ _ us hl => match us, hl with | [_, _], _ => rfl
    g_reach := PySem.W.mg_of X G a_reach
    f_holds := f_holds
    d_holds := _
    F_holds := F_holds
    b_holds := F_holds.binds (ps := ["sizes", "wanted"]) fun _ _ _ _ _ _ us hl => match us, hl with | [_, _], _ => rfl
    g_holds := PySem.W.mg_of X G a_holds
    f__law_begun := f__law_begun
    d__law_begun := _
    F__law_begun := F__law_begun
    b__law_begun := F__law_begun.binds (ps := ["_law_script"]) fun _ _ _ _ _ _ us hl => match us, hl with | [_], _ => rfl
    g__law_begun := PySem.W.mg_of X G a__law_begun
    f__law_draw := f__law_draw
    d__law_draw := _
    F__law_draw := F__law_draw
    b__law_draw := F__law_draw.binds (ps := ["_law_state", "_law_many"]) fun _ _ _ _ _ _ us hl => match us, hl with | [_, _], _ => rfl
    g__law_draw := PySem.W.mg_of X G a__law_draw
    f__law_pick := f__law_pick
    d__law_pick := _
    F__law_pick := F__law_pick
    b__law_pick := F__law_pick.binds (ps := ["_law_state", "_law_some"]) fun _ _ _ _ _ _ us hl => match us, hl with | [_, _], _ => rfl
    g__law_pick := PySem.W.mg_of X G a__law_pick
    f__law_longer := f__law_longer
    d__law_longer := _
    F__law_longer := F__law_longer
    b__law_longer := F__law_longer.binds (ps := ["_law_rows_here"]) fun _ _ _ _ _ _ us hl => match us, hl with | [_], _ => rfl
    g__law_longer := PySem.W.mg_of X G a__law_longer
    f__law_subsets := f__law_subsets
    d__law_subsets := _
    F__law_subsets := F__law_subsets
    b__law_subsets := F__law_subsets.binds (ps := ["_law_many", "_law_size"]) fun _ _ _ _ _ _ us hl => match us, hl with | [_, _], _ => rfl
    g__law_subsets := PySem.W.mg_of X G a__law_subsets
    f__law_sums := f__law_sums
    d__law_sums := _
    F__law_sums := F__law_sums
    b__law_sums := F__law_sums.binds (ps := ["_law_many", "_law_lots"]) fun _ _ _ _ _ _ us hl => match us, hl with | [_, _], _ => rfl
    g__law_sums := PySem.W.mg_of X G a__law_sums
    f__law_rows := f__law_rows
    d__law_rows := _
    F__law_rows := F__law_rows
    b__law_rows := F__law_rows.binds (ps := ["_law_many", "_law_most"]) fun _ _ _ _ _ _ us hl => match us, hl with | [_, _], _ => rfl
    g__law_rows := PySem.W.mg_of X G a__law_rows
    f_law := fa
    d_law := _
    F_law := F_law }
  exact ⟨T.d_law, fun s v => .of_eq rfl, fun base _ _ => ok_law T⟩
theorem walk {l : PySem.W.OpenLaw} {q : Program} {loose : List Str} {XP : (Str → Option Value) → Heap → Prop} {YP : World → Heap → Prop} {d : DefRec} {K : Params → PySem.W.Frag} (hn : l.most = some 63) (hdf : d.params.defaults = [])
    (hY : ∀ (w : World) (h : Heap), YP w h → (K w.params).In h)
    (F : ∀ (w : World) (mg : Str → Option Value) (fa : Addr) (h : Heap), (K w.params).In h → h.Ns mainGlobals mg → mg d.name = some (.ref fa) →
      ∃ fd : FuncData, (∀ (s : Shared) (u : Value), BindsTo s fd ⟨[u], []⟩ [("_law_script", u)]) ∧ ∀ base : Heap, (K w.params).In base → base.Ns mainGlobals mg → FnOk l.prog w (K w.params) mg base CX0 4 fa fd ["_law_script"] (sp_law (K w.params))) :
    PySem.W.WalkO q loose XP YP l.row.toRowW d [] (fun f vs => PySem.call f vs) :=
  L2.walk_of (n := 63) (k := 4) (x := "_law_script") (CX := fun _ => CX0) (sp := fun w => sp_law (K w.params)) hn (by decide) hdf ⟨rfl, by decide, by decide⟩ hY F (fun _ _ a ns hl _ hS => law_in a ns hl hS) fun _ _ _ _ _ z => z

end B
open PySem PySem.W PyProof.Rows
set_option maxRecDepth 100000 in
set_option maxHeartbeats 0 in
theorem PySem.Challenge.cw_bygone_k21_whole_sums_of_sets_holds : PySem.Challenge.rw_bygone_k21_whole_sums_of_sets.Holds := by
  w_on; o_law; k_head; (case hw => w_witness2)
  k_fill
  refine B.walk (l := PySem.Challenge.rw_bygone_k21_whole_sums_of_sets) rfl rfl (fun w h Y => PySem.W.kIn_of Y) ?F
  case F =>
    intro w mg fa h KX G hmg
    refine' B.all_mk KX G hmg ?z_sum ?z_min ?z_sorted ?z_enumerate ?z_abs ?z_len ?z_range ?z_tuple ?z_zip ?z_list ?z_isinstance ?z_bool ?a_reach ?l_reach ?c_reach ?k_reach ?a_holds ?l_holds ?c_holds ?k_holds ?a__law_begun ?l__law_begun ?c__law_begun ?k__law_begun ?a__law_draw ?l__law_draw ?c__law_draw ?k__law_draw ?a__law_pick ?l__law_pick ?c__law_pick ?k__law_pick ?a__law_longer ?l__law_longer ?c__law_longer ?k__law_longer ?a__law_subsets ?l__law_subsets ?c__law_subsets ?k__law_subsets ?a__law_sums ?l__law_sums ?c__law_sums ?k__law_sums ?a__law_rows ?l__law_rows ?c__law_rows ?k__law_rows ?a_law ?l_law ?c_law ?k_law
    (case z_sum => k_is)
    (case z_min => k_is)
    (case z_sorted => k_is)
    (case z_enumerate => k_is)
    (case z_abs => k_is)
    (case z_len => k_is)
    (case z_range => k_is)
    (case z_tuple => k_is)
    (case z_zip => k_is)
    (case z_list => k_is)
    (case z_isinstance => k_is)
    (case z_bool => k_is)
    (case a_reach => k_is)
    (case l_reach => k_is)
    (case c_reach => k_is)
    (case k_reach => k_is)
    (case a_holds => k_is)
    (case l_holds => k_is)
    (case c_holds => k_is)
    (case k_holds => k_is)
    (case a__law_begun => k_is)
    (case l__law_begun => k_is)
    (case c__law_begun => k_is)
    (case k__law_begun => k_is)
    (case a__law_draw => k_is)
    (case l__law_draw => k_is)
    (case c__law_draw => k_is)
    (case k__law_draw => k_is)
    (case a__law_pick => k_is)
    (case l__law_pick => k_is)
    (case c__law_pick => k_is)
    (case k__law_pick => k_is)
    (case a__law_longer => k_is)
    (case l__law_longer => k_is)
    (case c__law_longer => k_is)
    (case k__law_longer => k_is)
    (case a__law_subsets => k_is)
    (case l__law_subsets => k_is)
    (case c__law_subsets => k_is)
    (case k__law_subsets => k_is)
    (case a__law_sums => k_is)
    (case l__law_sums => k_is)
    (case c__law_sums => k_is)
    (case k__law_sums => k_is)
    (case a__law_rows => k_is)
    (case l__law_rows => k_is)
    (case c__law_rows => k_is)
    (case k__law_rows => k_is)
    (case a_law => k_is)
    (case l_law => k_is)
    (case c_law => k_is)
    (case k_law => k_is)
