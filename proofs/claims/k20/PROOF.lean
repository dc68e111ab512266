import PyProof.Rows.All
import Wide.All
import OpenK.AllK
import Wide.FinOn
import HandS.ForMost
import HandS.Evl
import HandS.IsInst
import HandS.Style
import HandS.SortInts
import HandS.ListItems
import HandS.DictComp
import KE.DatumMoreOrd
import KE.DatumIndex
import PySem.Challenge.RW_bygone_k20_lost_together
set_option Elab.async false
set_option linter.all false
set_option maxRecDepth 100000
set_option maxHeartbeats 4000000
/-! B: worlds (an unchanging part of the heap within the heap), data read off the unchanging part, what a reading evaluates to -/
namespace B
open PySem L2
abbrev SS := L2.St
abbrev Fg := PySem.W.Frag
open Evl (Ex)
open PySem.W (Tup T3 T4 Datum DatumOrd)

/-! ### heaps -/
/-- all is kept, but that a dict may be locked -/
def Ext (H H' : Hp) : Prop := ∀ a o, H a = some o → H' a = some o ∨ ((∃ kvs, o = HO.dK kvs) ∧ ∃ ob, H' a = some (.frz ob o))
theorem Ext.refl (H : Hp) : Ext H H := fun _ _ h => .inl h
theorem exExt {H H' : Hp} (e : Ex H H') : Ext H H' := fun a o h => .inl (e a o h)
theorem Ext.trans {H H1 H2 : Hp} (a : Ext H H1) (b : Ext H1 H2) : Ext H H2 := fun x o h => by
  rcases a x o h with h1 | ⟨⟨k, rfl⟩, ob, h1⟩
  · exact b x o h1
  · rcases b x _ h1 with h2 | ⟨⟨k', h2⟩, _⟩
    · exact .inr ⟨⟨k, rfl⟩, ob, h2⟩
    · cases h2
theorem Ext.rd {H H' : Hp} {a : Addr} {u : HO} (e : Ext H H') (h : Rd H a u) : Rd H' a u := by
  rcases h with h | ⟨o, h⟩
  · rcases e a _ h with h1 | ⟨_, ob, h1⟩
    · exact .inl h1
    · exact .inr ⟨ob, h1⟩
  · rcases e a _ h with h1 | ⟨⟨k, h1⟩, _⟩
    · exact .inr ⟨o, h1⟩
    · cases h1
theorem Ext.free {H H' : Hp} {p : Addr} (e : Ext H H') (h : H' p = none) : H p = none := by
  cases q : H p with
  | none => rfl
  | some o => rcases e p o q with h1 | ⟨_, ob, h1⟩ <;> (rw [h] at h1; cases h1)
theorem Ext.l {K : Fg} {H H' : Hp} {a : Addr} {xs : List V} (e : Ext H H') (h : SqL K H a xs) : SqL K H' a xs := by
  rcases h with h | h
  · exact .inl (e.rd h)
  · exact .inr h
theorem Ext.t {K : Fg} {H H' : Hp} {a : Addr} {xs : List V} (e : Ext H H') (h : SqT K H a xs) : SqT K H' a xs := by
  rcases h with h | h
  · exact .inl (e.rd h)
  · exact .inr h
theorem Ext.el {H H' : Hp} {a : Addr} {xs : List V} (e : Ext H H') (h : H a = some (.lst xs)) : H' a = some (.lst xs) := by
  rcases e a _ h with h1 | ⟨⟨_, q⟩, _⟩
  · exact h1
  · cases q
theorem Ext.et {H H' : Hp} {a : Addr} {xs : List V} (e : Ext H H') (h : H a = some (.tup xs)) : H' a = some (.tup xs) := by
  rcases e a _ h with h1 | ⟨⟨_, q⟩, _⟩
  · exact h1
  · cases q
theorem Ext.ins {H H' : Hp} {a C dx : Addr} {fs : List (Str × V)} (e : Ext H H') (h : H a = some (.ins C dx fs)) : H' a = some (.ins C dx fs) := by
  rcases e a _ h with h1 | ⟨⟨_, q⟩, _⟩
  · exact h1
  · cases q
theorem Ext.lock {H : Hp} {d : Addr} {kvs : List (Key × V)} {od : Obj} (h : H d = some (.dK kvs)) : Ext H (upd H d (.frz od (.dK kvs))) := fun a o e => by
  by_cases q : a = d
  · subst q
    rw [h] at e; cases e
    exact .inr ⟨⟨kvs, rfl⟩, od, upd_same⟩
  · exact .inl (by rw [upd_ne q]; exact e)

/-- a world: the heap H, within it the part B that stays as it is -/
structure Wd where
  B : Hp
  H : Hp
  sub : Ext B H
/-- the world has moved on: what stays is as it was (and no more of it is locked), of the rest only S may have changed; what was free to change still is -/
structure Md (S : List Addr) (W W' : Wd) : Prop where
  b : Ex W.B W'.B
  l : ∀ a o, W.B a = some o → W.H a = some o → W'.H a = some o
  o : ∀ a o, a ∉ S → W.H a = some o → W'.H a = some o
  m : ∀ a, W.H a ≠ none → W'.B a = W.B a
  d : ∀ a, W.H a ≠ none → W'.H a ≠ none
theorem Md.refl (S : List Addr) (W : Wd) : Md S W W := ⟨Evl.Ex.refl _, fun _ _ _ h => h, fun _ _ _ h => h, fun _ _ => rfl, fun _ h => h⟩
theorem Md.trans {S : List Addr} {W W1 W2 : Wd} (a : Md S W W1) (b : Md S W1 W2) : Md S W W2 := ⟨a.b.trans b.b, fun x o h1 h2 => b.l x o (a.b x o h1) (a.l x o h1 h2), fun x o h1 h2 => b.o x o h1 (a.o x o h1 h2), fun x hx => by
  rw [b.m x (a.d x hx), a.m x hx], fun x hx => b.d x (a.d x hx)⟩
theorem Md.mono {S S' : List Addr} {W W' : Wd} (a : Md S W W') (h : ∀ x, x ∈ S → x ∈ S') : Md S' W W' := ⟨a.b, a.l, fun x o h1 h2 => a.o x o (fun z => h1 (h x z)) h2, a.m, a.d⟩
theorem Md.mut {S : List Addr} {W W' : Wd} (g : Md S W W') {a : Addr} {o : HO} (hS : a ∉ S) (h : W.H a = some o) (n : W.B a = none) : W'.H a = some o ∧ W'.B a = none :=
  ⟨g.o a o hS h, by rw [g.m a (by rw [h]; exact fun z => by cases z)]; exact n⟩
abbrev Grow := Md []
theorem Md.h {W W' : Wd} (g : Md [] W W') : Ex W.H W'.H := fun a o e => g.o a o (by simp) e
theorem Grow.s {S : List Addr} {W W' : Wd} (g : Grow W W') : Md S W W' := g.mono fun _ h => by simp at h
theorem Grow.mk {W W' : Wd} (b : Ex W.B W'.B) (h : Ex W.H W'.H) (m : ∀ a, W.H a ≠ none → W'.B a = W.B a) : Grow W W' := ⟨b, fun a o _ h2 => h a o h2, fun a o _ h2 => h a o h2, m, fun a h2 z => by
  cases q : W.H a with
  | none => exact h2 q
  | some o => rw [h a o q] at z; cases z⟩
theorem Wd.free (W : Wd) {p : Addr} (h : W.H p = none) : W.B p = none := W.sub.free h
/-- a new thing that stays -/
def Wd.add (W : Wd) (p : Addr) (o : HO) : Wd := ⟨upd W.B p o, upd W.H p o, fun a u e => by
  by_cases q : a = p
  · subst q; rw [upd_same] at e; cases e; exact .inl upd_same
  · rw [upd_ne q] at e; rw [upd_ne q]; exact W.sub a u e⟩
theorem Wd.grow_add (W : Wd) {p : Addr} {o : HO} (h : W.H p = none) : Grow W (W.add p o) :=
  .mk (Evl.Ex.new (W.free h)) (Evl.Ex.new h) fun a ha => by
    have : a ≠ p := fun e => ha (by rw [e]; exact h)
    show upd W.B p o a = W.B a
    rw [upd_ne this]
/-- a thing that may change, new or changed -/
def Wd.put (W : Wd) (p : Addr) (o : HO) (h : W.B p = none) : Wd := ⟨W.B, upd W.H p o, fun a u e => by
  have q : a ≠ p := fun q => by rw [q, h] at e; cases e
  rw [upd_ne q]; exact W.sub a u e⟩
theorem Wd.grow_put (W : Wd) {p : Addr} {o : HO} (h : W.H p = none) : Grow W (W.put p o (W.free h)) :=
  .mk (Evl.Ex.refl _) (Evl.Ex.new h) fun _ _ => rfl
theorem md_put {W : Wd} {p : Addr} {o : HO} (h : W.B p = none) : Md [p] W (W.put p o h) := ⟨Evl.Ex.refl _, fun a u h1 h2 => by
    have : a ≠ p := fun e => by rw [e, h] at h1; cases h1
    show upd W.H p o a = some u
    rw [upd_ne this]; exact h2, fun a u h1 h2 => by
    have : a ≠ p := fun e => h1 (by rw [e]; simp)
    show upd W.H p o a = some u
    rw [upd_ne this]; exact h2, fun _ _ => rfl, fun a ha => by
    show upd W.H p o a ≠ none
    by_cases q : a = p
    · rw [q, upd_same]; exact fun z => by cases z
    · rw [upd_ne q]; exact ha⟩
/-- what an expression may do: S may change, I holds throughout -/
structure Ef where
  S : List Addr
  I : Wd → Prop
  dom : ∀ W a, I W → a ∈ S → W.H a ≠ none
  mv : ∀ W W', Ex W.B W'.B → (∀ a, a ∈ S → W.H a ≠ none → W'.H a = W.H a ∧ W'.B a = W.B a) → I W → I W'
theorem Ef.grow (ε : Ef) (W W' : Wd) (g : Grow W W') (h : ε.I W) : ε.I W' := ε.mv W W' g.b (fun a _ ha => by
  cases q : W.H a with
  | none => exact absurd q ha
  | some o => exact ⟨g.h a o q, g.m a ha⟩) h
def pur : Ef := ⟨[], fun _ => True, fun _ _ _ h => by simp at h, fun _ _ _ _ _ => trivial⟩
structure Stp (ε : Ef) (W W' : Wd) : Prop where
  md : Md ε.S W W'
  i : ε.I W'
theorem Stp.rf {ε : Ef} {W W' : Wd} (a : Stp ε W W') : Stp ε W' W' := ⟨.refl _ _, a.i⟩
theorem Stp.start {ε : Ef} {W : Wd} (a : ε.I W) : Stp ε W W := ⟨.refl _ _, a⟩
theorem Stp.trans {ε : Ef} {W W1 W2 : Wd} (a : Stp ε W W1) (b : Stp ε W1 W2) : Stp ε W W2 := ⟨a.md.trans b.md, b.i⟩
theorem Stp.and {ε : Ef} {W W1 W2 : Wd} (a : Stp ε W W1) (b : Grow W1 W2) : Stp ε W W2 := ⟨a.md.trans (Grow.s b), ε.grow _ _ b a.i⟩
theorem Stp.pure {W W' : Wd} (a : Stp pur W W') : Grow W W' := a.md
theorem Stp.of {W W' : Wd} (a : Grow W W') : Stp pur W W' := ⟨a, trivial⟩

/-! ### data -/
class Py (α : Type) where
  rep : Fg → Hp → V → α → Prop
  mono : ∀ {K : Fg} {H H' : Hp} {v : V} {x : α}, Ext H H' → rep K H v x → rep K H' v x
abbrev rep {α : Type} [Py α] (K : Fg) (H : Hp) (v : V) (x : α) : Prop := Py.rep K H v x
theorem rex {α : Type} [Py α] {K : Fg} {H H' : Hp} {v : V} {x : α} (e : Ex H H') (h : rep K H v x) : rep K H' v x := Py.mono (exExt e) h
instance : Py Int := ⟨fun _ _ v i => v = .int i, fun _ h => h⟩
instance : Py Bool := ⟨fun _ _ v b => v = .bl b, fun _ h => h⟩
instance : Py Str := ⟨fun _ _ v s => v = .str s, fun _ h => h⟩
instance : Py Unit := ⟨fun _ _ v _ => v = .non, fun _ h => h⟩
/-- any value by itself -/
structure Raw where
  v : V
instance : Py Raw := ⟨fun _ _ v x => v = x.v, fun _ h => h⟩
abbrev Reps {α : Type} [Py α] (K : Fg) (H : Hp) (vs : List V) (xs : List α) : Prop := Paired (rep K H) vs xs
theorem Reps.mono {α : Type} [Py α] {K : Fg} {H H' : Hp} (e : Ext H H') : ∀ {vs : List V} {xs : List α}, Reps K H vs xs → Reps K H' vs xs
  | _, _, .nil => .nil
  | _, _, .cons a b => .cons (Py.mono e a) (Reps.mono e b)
theorem Reps.len {α : Type} [Py α] {K : Fg} {H : Hp} {vs : List V} {xs : List α} (h : Reps K H vs xs) : vs.length = xs.length := Paired.length h
theorem Reps.get {α : Type} [Py α] {K : Fg} {H : Hp} : ∀ {vs : List V} {xs : List α}, Reps K H vs xs → ∀ {i : Nat} {v : V}, vs[i]? = some v → ∃ x, xs[i]? = some x ∧ rep K H v x
  | _, _, .nil, i, v, e => by simp at e
  | _, _, .cons a b, 0, v, e => by simp at e; subst e; exact ⟨_, rfl, a⟩
  | _, _, .cons a b, i + 1, v, e => by
    obtain ⟨x, h1, h2⟩ := Reps.get b (i := i) (v := v) (by simpa using e)
    exact ⟨x, by simpa using h1, h2⟩
theorem Reps.get' {α : Type} [Py α] {K : Fg} {H : Hp} : ∀ {vs : List V} {xs : List α}, Reps K H vs xs → ∀ {i : Nat} {x : α}, xs[i]? = some x → ∃ v, vs[i]? = some v ∧ rep K H v x
  | _, _, .nil, i, v, e => by simp at e
  | _, _, .cons a b, 0, v, e => by simp at e; subst e; exact ⟨_, rfl, a⟩
  | _, _, .cons a b, i + 1, v, e => by
    obtain ⟨x, h1, h2⟩ := Reps.get' b (i := i) (x := v) (by simpa using e)
    exact ⟨x, by simpa using h1, h2⟩
theorem Reps.snoc {α : Type} [Py α] {K : Fg} {H : Hp} {vs : List V} {xs : List α} {v : V} {x : α} (h : Reps K H vs xs) (r : rep K H v x) : Reps K H (vs ++ [v]) (xs ++ [x]) := Paired.snoc h r
theorem Reps.app {α : Type} [Py α] {K : Fg} {H : Hp} : ∀ {vs ws : List V} {xs ys : List α}, Reps K H vs xs → Reps K H ws ys → Reps K H (vs ++ ws) (xs ++ ys)
  | _, _, _, _, .nil, h => h
  | _, _, _, _, .cons a b, h => .cons a (Reps.app b h)
theorem Reps.rev {α : Type} [Py α] {K : Fg} {H : Hp} : ∀ {vs : List V} {xs : List α}, Reps K H vs xs → Reps K H vs.reverse xs.reverse
  | _, _, .nil => .nil
  | _, _, .cons a b => by simp only [List.reverse_cons]; exact Reps.snoc (Reps.rev b) a
theorem Reps.take {α : Type} [Py α] {K : Fg} {H : Hp} : ∀ (n : Nat) {vs : List V} {xs : List α}, Reps K H vs xs → Reps K H (vs.take n) (xs.take n)
  | 0, _, _, _ => .nil
  | n + 1, _, _, .nil => .nil
  | n + 1, _, _, .cons a b => .cons a (Reps.take n b)
theorem Reps.drop {α : Type} [Py α] {K : Fg} {H : Hp} : ∀ (n : Nat) {vs : List V} {xs : List α}, Reps K H vs xs → Reps K H (vs.drop n) (xs.drop n)
  | 0, _, _, h => h
  | n + 1, _, _, .nil => .nil
  | n + 1, _, _, .cons a b => Reps.drop n b
theorem Reps.set {α : Type} [Py α] {K : Fg} {H : Hp} {v : V} {x : α} (r : rep K H v x) : ∀ {vs : List V} {xs : List α} (i : Nat), Reps K H vs xs → Reps K H (vs.set i v) (xs.set i x)
  | _, _, _, .nil => .nil
  | _, _, 0, .cons a b => .cons r b
  | _, _, i + 1, .cons a b => .cons a (Reps.set r i b)
theorem reps_int {K : Fg} {H : Hp} : ∀ {vs : List V} {ns : List Int}, Reps K H vs ns → vs = ns.map V.int
  | _, _, .nil => rfl
  | _, _, .cons a b => by rw [show _ = _ from a, reps_int b]; rfl
theorem int_reps {K : Fg} {H : Hp} : ∀ (ns : List Int), Reps K H (ns.map V.int) ns
  | [] => .nil
  | _ :: r => .cons rfl (int_reps r)
theorem reps_str {K : Fg} {H : Hp} : ∀ {vs : List V} {ns : List Str}, Reps K H vs ns → vs = ns.map V.str
  | _, _, .nil => rfl
  | _, _, .cons a b => by rw [show _ = _ from a, reps_str b]; rfl
theorem str_reps {K : Fg} {H : Hp} : ∀ (ns : List Str), Reps K H (ns.map V.str) ns
  | [] => .nil
  | _ :: r => .cons rfl (str_reps r)
theorem reps_bl {K : Fg} {H : Hp} : ∀ {vs : List V} {ns : List Bool}, Reps K H vs ns → vs = ns.map V.bl
  | _, _, .nil => rfl
  | _, _, .cons a b => by rw [show _ = _ from a, reps_bl b]; rfl
theorem bl_reps {K : Fg} {H : Hp} : ∀ (ns : List Bool), Reps K H (ns.map V.bl) ns
  | [] => .nil
  | _ :: r => .cons rfl (bl_reps r)
instance {α : Type} [Py α] : Py (List α) := ⟨fun K H v xs => ∃ a vs, v = .ref a ∧ H a = some (.lst vs) ∧ Reps K H vs xs,
  fun e ⟨a, vs, h1, h2, h3⟩ => ⟨a, vs, h1, e.el h2, Reps.mono e h3⟩⟩
instance {α : Type} [Py α] : Py (Tup α) := ⟨fun K H v xs => ∃ a vs, v = .ref a ∧ H a = some (.tup vs) ∧ Reps K H vs xs.items,
  fun e ⟨a, vs, h1, h2, h3⟩ => ⟨a, vs, h1, e.et h2, Reps.mono e h3⟩⟩
instance {α β : Type} [Py α] [Py β] : Py (α × β) := ⟨fun K H v p => ∃ a x y, v = .ref a ∧ H a = some (.tup [x, y]) ∧ rep K H x p.1 ∧ rep K H y p.2,
  fun e ⟨a, x, y, h1, h2, h3, h4⟩ => ⟨a, x, y, h1, e.et h2, Py.mono e h3, Py.mono e h4⟩⟩
instance {α β γ : Type} [Py α] [Py β] [Py γ] : Py (T3 α β γ) := ⟨fun K H v p => ∃ a x y z, v = .ref a ∧ H a = some (.tup [x, y, z]) ∧ rep K H x p.a ∧ rep K H y p.b ∧ rep K H z p.c,
  fun e ⟨a, x, y, z, h1, h2, h3, h4, h5⟩ => ⟨a, x, y, z, h1, e.et h2, Py.mono e h3, Py.mono e h4, Py.mono e h5⟩⟩
instance {α β γ δ : Type} [Py α] [Py β] [Py γ] [Py δ] : Py (T4 α β γ δ) := ⟨fun K H v p => ∃ a x y z w, v = .ref a ∧ H a = some (.tup [x, y, z, w]) ∧ rep K H x p.a ∧ rep K H y p.b ∧ rep K H z p.c ∧ rep K H w p.d,
  fun e ⟨a, x, y, z, w, h1, h2, h3, h4, h5, h6⟩ => ⟨a, x, y, z, w, h1, e.et h2, Py.mono e h3, Py.mono e h4, Py.mono e h5, Py.mono e h6⟩⟩
instance {α : Type} [Py α] : Py (Option α) := ⟨fun K H v o => match o with | none => v = .non | some x => rep K H v x,
  fun {_ _ _ _ o} e h => match o, h with | none, h => h | some _, h => Py.mono e h⟩
class PyKey (κ : Type) where
  key : κ → Key
  inj : ∀ {a b : κ}, key a = key b → a = b
instance : PyKey Int := ⟨.inl, fun h => Sum.inl.inj h⟩
instance : PyKey Str := ⟨.inr, fun h => Sum.inr.inj h⟩
structure Dict (κ α : Type) where
  kv : List (κ × α)
abbrev KReps {κ α : Type} [PyKey κ] [Py α] (K : Fg) (H : Hp) (ks : List (Key × V)) (xs : List (κ × α)) : Prop := Paired (fun p q => p.1 = PyKey.key q.1 ∧ rep K H p.2 q.2) ks xs
theorem KReps.mono {κ α : Type} [PyKey κ] [Py α] {K : Fg} {H H' : Hp} (e : Ext H H') : ∀ {vs : List (Key × V)} {xs : List (κ × α)}, KReps K H vs xs → KReps K H' vs xs
  | _, _, .nil => .nil
  | _, _, .cons a b => .cons ⟨a.1, Py.mono e a.2⟩ (KReps.mono e b)
theorem KReps.len {κ α : Type} [PyKey κ] [Py α] {K : Fg} {H : Hp} {vs : List (Key × V)} {xs : List (κ × α)} (h : KReps K H vs xs) : vs.length = xs.length := Paired.length h
theorem KReps.get {κ α : Type} [PyKey κ] [Py α] {K : Fg} {H : Hp} : ∀ {vs : List (Key × V)} {xs : List (κ × α)}, KReps K H vs xs → ∀ {i : Nat} {k : Key} {v : V}, vs[i]? = some (k, v) → ∃ q, xs[i]? = some q ∧ k = PyKey.key q.1 ∧ rep K H v q.2
  | _, _, .nil, i, k, v, e => by simp at e
  | _, _, .cons a b, 0, k, v, e => by simp at e; subst e; exact ⟨_, rfl, a⟩
  | _, _, .cons a b, i + 1, k, v, e => by
    obtain ⟨x, h1, h2⟩ := KReps.get b (i := i) (k := k) (v := v) (by simpa using e)
    exact ⟨x, by simpa using h1, h2⟩
instance {κ α : Type} [PyKey κ] [Py α] : Py (Dict κ α) := ⟨fun K H v d => ∃ a ks, v = .ref a ∧ Rd H a (.dK ks) ∧ KReps K H ks d.kv,
  fun e ⟨a, vs, h1, h2, h3⟩ => ⟨a, vs, h1, e.rd h2, KReps.mono e h3⟩⟩
theorem key_rep {κ : Type} [PyKey κ] [Py κ] (K : Fg) (H : Hp) (h : ∀ k : κ, rep K H (kV (PyKey.key k)) k) (k : κ) : rep K H (kV (PyKey.key k)) k := h k
class PyKV (κ : Type) extends PyKey κ, Py κ where
  krep : ∀ (K : Fg) (H : Hp) (k : κ), Py.rep K H (kV (key k)) k
  keyv : ∀ {K : Fg} {H : Hp} {v : V} {k : κ}, Py.rep K H v k → v = kV (key k)
instance : PyKV Int := { krep := fun _ _ _ => rfl, keyv := fun h => h }
instance : PyKV Str := { krep := fun _ _ _ => rfl, keyv := fun h => h }
/-! ### data that == tells apart -/
class PyD (α : Type) [DecidableEq α] [Datum α] [Py α] : Prop where
  dp : ∀ {K : Fg} {H : Hp} {v : V} {x : α}, rep K H v x → Dp K H v (Datum.toD x)
theorem reps_dp {α : Type} [DecidableEq α] [Datum α] [Py α] [PyD α] {K : Fg} {H : Hp} : ∀ {vs : List V} {xs : List α}, Reps K H vs xs → DpAll K H vs (xs.map Datum.toD)
  | _, _, .nil => .nil
  | _, _, .cons a b => .cons (PyD.dp a) (reps_dp b)
instance : PyD Int := ⟨fun {K H v x} h => by rw [show v = _ from h]; exact .int x⟩
instance : PyD Bool := ⟨fun {K H v x} h => by rw [show v = _ from h]; exact .bl x⟩
instance : PyD Str := ⟨fun {K H v x} h => by rw [show v = _ from h]; exact .str x⟩
instance : PyD Unit := ⟨fun {K H v x} h => by rw [show v = _ from h]; exact .non⟩
section
variable {α β γ δ : Type} [DecidableEq α] [Datum α] [Py α] [PyD α] [DecidableEq β] [Datum β] [Py β] [PyD β] [DecidableEq γ] [Datum γ] [Py γ] [PyD γ] [DecidableEq δ] [Datum δ] [Py δ] [PyD δ]
instance : PyD (List α) := ⟨fun ⟨a, vs, e, h, r⟩ => by rw [e]; exact .lst (SqL.of h) (reps_dp r)⟩
instance : PyD (Tup α) := ⟨fun ⟨a, vs, e, h, r⟩ => by rw [e]; exact .tup (SqT.of h) (reps_dp r)⟩
instance : PyD (α × β) := ⟨fun ⟨a, x, y, e, h, r1, r2⟩ => by rw [e]; exact .tup (SqT.of h) (.cons (PyD.dp r1) (.cons (PyD.dp r2) .nil))⟩
instance : PyD (T3 α β γ) := ⟨fun ⟨a, x, y, z, e, h, r1, r2, r3⟩ => by rw [e]; exact .tup (SqT.of h) (.cons (PyD.dp r1) (.cons (PyD.dp r2) (.cons (PyD.dp r3) .nil)))⟩
instance : PyD (T4 α β γ δ) := ⟨fun ⟨a, x, y, z, w, e, h, r1, r2, r3, r4⟩ => by rw [e]; exact .tup (SqT.of h) (.cons (PyD.dp r1) (.cons (PyD.dp r2) (.cons (PyD.dp r3) (.cons (PyD.dp r4) .nil))))⟩
end
theorem holds_of {X : Cx} {pins : List (Addr × Obj)} {σ : SS} {H : Hp} {s : Shared} {α : Type} [DecidableEq α] [Datum α] {v : V} {u : Value} {x : α} (I : Inv X pins σ H s) (h : Dp X.K H v (Datum.toD x)) (r : RelV v u) : PySem.W.Holds s.heap u x := Dp.reads I _ v u h r
/-- == of two such of one type -/
def rEqT (K : Fg) (neg : Bool) : R2 := fun x y H Q => ∃ (α : Type) (_ : DecidableEq α) (_ : Datum α) (a b : α), Dp K H x (Datum.toD a) ∧ Dp K H y (Datum.toD b) ∧ Datum.depth α ≤ 60 ∧ Q (.bl (if neg then !decide (a = b) else decide (a = b))) H
def rLtT (K : Fg) : R2 := fun x y H Q => ∃ (α : Type) (_ : DecidableEq α) (_ : DatumOrd α) (a b : α), Dp K H x (Datum.toD a) ∧ Dp K H y (Datum.toD b) ∧ Datum.depth α ≤ 60 ∧ Q (.bl (DatumOrd.lt a b)) H
def rInTL (K : Fg) (neg : Bool) : R2 := fun x y H Q => ∃ (α : Type) (_ : DecidableEq α) (_ : Datum α) (a : α) (b : List α), Dp K H x (Datum.toD a) ∧ Dp K H y (Datum.toD b) ∧ Datum.depth α ≤ 60 ∧ Q (.bl (if neg then !decide (a ∈ b) else decide (a ∈ b))) H
def rInTT (K : Fg) (neg : Bool) : R2 := fun x y H Q => ∃ (α : Type) (_ : DecidableEq α) (_ : Datum α) (a : α) (b : Tup α), Dp K H x (Datum.toD a) ∧ Dp K H y (Datum.toD b) ∧ Datum.depth α ≤ 60 ∧ Q (.bl (if neg then !decide (a ∈ b.items) else decide (a ∈ b.items))) H
section
variable {X : Cx}
theorem op_eqT (hu : X.A.units + 64 < cLine) : OpR X (compareOp .Eq) (rEqT X.K false) := by
  intro pins s σ H x y v u Q I rx ry h
  obtain ⟨α, _, _, a, b, ha, hb, hd, q⟩ := h
  exact PySem.W.eq_datum (holds_of I ha rx) (holds_of I hb ry) (by omega) ⟨.bl _, H, I, rfl, q⟩
theorem op_neT (hu : X.A.units + 64 < cLine) : OpR X (compareOp .NotEq) (rEqT X.K true) := by
  intro pins s σ H x y v u Q I rx ry h
  obtain ⟨α, _, _, a, b, ha, hb, hd, q⟩ := h
  refine PySem.W.ne_datum (holds_of I ha rx) (holds_of I hb ry) (by omega) ⟨.bl _, H, I, ?_, q⟩
  show Value.bool _ = Value.bool _
  simp
theorem op_ltTT (hu : X.A.units + 64 < cLine) : OpR X (compareOp .Lt) (rLtT X.K) := by
  intro pins s σ H x y v u Q I rx ry h
  obtain ⟨α, _, _, a, b, ha, hb, hd, q⟩ := h
  exact PySem.W.lt_datum (holds_of I ha rx) (holds_of I hb ry) (by omega) ⟨.bl _, H, I, rfl, q⟩
theorem op_inTL (hu : X.A.units + 64 < cLine) : OpR X (compareOp .In) (rInTL X.K false) := by
  intro pins s σ H x y v u Q I rx ry h
  obtain ⟨α, _, _, a, b, ha, hb, hd, q⟩ := h
  obtain ⟨l, vs, rfl, hl, H2⟩ := PySem.W.list_of_holds (holds_of I hb ry)
  exact PySem.W.in_list_datum hl H2 (holds_of I ha rx) (by omega) ⟨.bl _, H, I, rfl, q⟩
theorem op_notInTL (hu : X.A.units + 64 < cLine) : OpR X (compareOp .NotIn) (rInTL X.K true) := by
  intro pins s σ H x y v u Q I rx ry h
  obtain ⟨α, _, _, a, b, ha, hb, hd, q⟩ := h
  obtain ⟨l, vs, rfl, hl, H2⟩ := PySem.W.list_of_holds (holds_of I hb ry)
  refine PySem.W.notIn_list_datum hl H2 (holds_of I ha rx) (by omega) ⟨.bl _, H, I, ?_, q⟩
  show Value.bool _ = Value.bool _
  simp
theorem op_inTT (hu : X.A.units + 64 < cLine) : OpR X (compareOp .In) (rInTT X.K false) := by
  intro pins s σ H x y v u Q I rx ry h
  obtain ⟨α, _, _, a, b, ha, hb, hd, q⟩ := h
  obtain ⟨l, vs, rfl, hl, H2⟩ := PySem.W.tup_of_holds (holds_of I hb ry)
  exact PySem.W.in_tuple_datum hl H2 (holds_of I ha rx) (by omega) ⟨.bl _, H, I, rfl, q⟩
theorem op_notInTT (hu : X.A.units + 64 < cLine) : OpR X (compareOp .NotIn) (rInTT X.K true) := by
  intro pins s σ H x y v u Q I rx ry h
  obtain ⟨α, _, _, a, b, ha, hb, hd, q⟩ := h
  obtain ⟨l, vs, rfl, hl, H2⟩ := PySem.W.tup_of_holds (holds_of I hb ry)
  refine PySem.W.notIn_tuple_datum hl H2 (holds_of I ha rx) (by omega) ⟨.bl _, H, I, ?_, q⟩
  show Value.bool _ = Value.bool _
  simp
end
end B
/-! B: what a reading evaluates to in a world -/
namespace B
open PySem L2
open Evl (Ex)
open PySem.W (Tup T3 T4 Datum DatumOrd)

/-- later: what stays is as it was, and no more of it is locked -/
structure On (W W' : Wd) : Prop where
  b : Ex W.B W'.B
  l : ∀ a o, W.B a = some o → W.H a = some o → W'.H a = some o
theorem On.refl (W : Wd) : On W W := ⟨Evl.Ex.refl _, fun _ _ _ h => h⟩
theorem On.trans {W W1 W2 : Wd} (x : On W W1) (y : On W1 W2) : On W W2 := ⟨x.b.trans y.b, fun a o h1 h2 => y.l a o (x.b a o h1) (x.l a o h1 h2)⟩
theorem Md.on {S : List Addr} {W W' : Wd} (g : Md S W W') : On W W' := ⟨g.b, g.l⟩
theorem Stp.on {ε : Ef} {W W' : Wd} (g : Stp ε W W') : On W W' := g.md.on

section
variable {α β γ : Type} [Py α] [Py β] [Py γ] {K : Fg} {σ : SS} {W W' : Wd} {v : V} {x : α} {ε : Ef} {S : List Addr}
theorem rep_g (g : Md S W W') (h : rep K W.B v x) : rep K W'.B v x := rex g.b h
theorem rep_s (g : Stp ε W W') (h : rep K W.B v x) : rep K W'.B v x := rex g.md.b h
theorem rep_on (g : On W W') (h : rep K W.B v x) : rep K W'.B v x := rex g.b h
theorem rep_h (h : rep K W.B v x) : rep K W.H v x := Py.mono W.sub h
end
/-- an unlocked dict that stays -/
def DictAt {κ α : Type} [PyKey κ] [Py α] (K : Fg) (W : Wd) (v : V) (d : Dict κ α) : Prop :=
  ∃ a ks, v = .ref a ∧ W.B a = some (.dK ks) ∧ W.H a = some (.dK ks) ∧ KReps K W.B ks d.kv
section
variable {κ α : Type} [PyKey κ] [Py α] {K : Fg} {W W' : Wd} {v : V} {d : Dict κ α} {ε : Ef} {S : List Addr}
theorem DictAt.rep (h : DictAt K W v d) : rep K W.B v d := by
  obtain ⟨a, ks, h1, h2, h3, h4⟩ := h
  exact ⟨a, ks, h1, .inl h2, h4⟩
theorem DictAt.on (g : On W W') (h : DictAt K W v d) : DictAt K W' v d := by
  obtain ⟨a, ks, h1, h2, h3, h4⟩ := h
  exact ⟨a, ks, h1, g.b _ _ h2, g.l _ _ h2 h3, KReps.mono (exExt g.b) h4⟩
theorem DictAt.g (g : Md S W W') (h : DictAt K W v d) : DictAt K W' v d := h.on g.on
theorem DictAt.s (g : Stp ε W W') (h : DictAt K W v d) : DictAt K W' v d := h.on g.on
end

theorem nodup_le {α : Type} [DecidableEq α] : ∀ {l m : List α}, l.Nodup → (∀ x ∈ l, x ∈ m) → l.length ≤ m.length
  | [], _, _, _ => Nat.zero_le _
  | x :: l, m, n, h => by
    rw [List.nodup_cons] at n
    have hx := h x List.mem_cons_self
    have := nodup_le (m := m.erase x) n.2 fun y hy => (List.mem_erase_of_ne (fun (e : y = x) => n.1 (e ▸ hy))).mpr (h y (List.mem_cons_of_mem _ hy))
    rw [List.length_erase_of_mem hx] at this
    have : 0 < m.length := List.length_pos_of_mem hx
    rw [List.length_cons]
    omega
/-! tables -/
section
variable {κ α : Type} [DecidableEq κ]
def klook (kv : List (κ × α)) (k : κ) : Option α := (kv.find? fun q => decide (q.1 = k)).map (·.2)
def kput (kv : List (κ × α)) (k : κ) (v : α) : List (κ × α) := if (kv.any fun q => decide (q.1 = k)) = true then kv.map (fun q => if q.1 = k then (q.1, v) else q) else kv ++ [(k, v)]
def kdrop (kv : List (κ × α)) (k : κ) : List (κ × α) := kv.filter fun q => decide (q.1 ≠ k)
theorem klook_nil {k : κ} : klook ([] : List (κ × α)) k = none := rfl
theorem klook_cons {q : κ × α} {kv : List (κ × α)} {k : κ} : klook (q :: kv) k = if q.1 = k then some q.2 else klook kv k := by
  unfold klook
  rw [List.find?_cons]
  by_cases h : q.1 = k
  · simp [h]
  · simp [h]
theorem klook_none {k : κ} : ∀ {kv : List (κ × α)}, klook kv k = none ↔ k ∉ kv.map (·.1)
  | [] => by simp [klook_nil]
  | q :: kv => by
    rw [klook_cons]
    by_cases h : q.1 = k
    · simp [h]
    · rw [if_neg h, klook_none, List.map_cons, List.mem_cons, not_or]
      exact ⟨fun z => ⟨fun e => h e.symm, z⟩, fun z => z.2⟩
theorem klook_mem {k : κ} {v : α} : ∀ {kv : List (κ × α)}, klook kv k = some v → (k, v) ∈ kv
  | [], h => by simp [klook_nil] at h
  | q :: kv, h => by
    rw [klook_cons] at h
    by_cases e : q.1 = k
    · rw [if_pos e] at h
      have : q = (k, v) := Prod.ext e (Option.some.inj h)
      rw [this]; exact List.mem_cons_self
    · rw [if_neg e] at h; exact List.mem_cons_of_mem _ (klook_mem h)
theorem klook_of_mem {k : κ} {v : α} : ∀ {kv : List (κ × α)}, (kv.map (·.1)).Nodup → (k, v) ∈ kv → klook kv k = some v
  | [], _, h => by simp at h
  | q :: kv, n, h => by
    rw [List.map_cons, List.nodup_cons] at n
    rw [klook_cons]
    rcases List.mem_cons.mp h with e | h
    · rw [← e]; simp
    · have : q.1 ≠ k := fun z => n.1 (List.mem_map.mpr ⟨(k, v), h, z.symm⟩)
      rw [if_neg this]; exact klook_of_mem n.2 h
theorem kput_mem {kv : List (κ × α)} {k : κ} {v : α} {q : κ × α} (h : q ∈ kput kv k v) : q ∈ kv ∨ q = (k, v) := by
  unfold kput at h
  split at h
  · obtain ⟨q', h1, h2⟩ := List.mem_map.mp h
    by_cases e : q'.1 = k
    · rw [if_pos e] at h2; exact .inr (by rw [← h2, e])
    · rw [if_neg e] at h2; exact .inl (h2 ▸ h1)
  · rcases List.mem_append.mp h with h | h
    · exact .inl h
    · exact .inr (by simpa using h)
theorem kput_keys_nodup {kv : List (κ × α)} {k : κ} {v : α} (n : (kv.map (·.1)).Nodup) : ((kput kv k v).map (·.1)).Nodup := by
  unfold kput
  split
  · have : (kv.map (fun q => if q.1 = k then (q.1, v) else q)).map (·.1) = kv.map (·.1) := by
      rw [List.map_map]
      refine List.map_congr_left fun q _ => ?_
      show (if q.1 = k then (q.1, v) else q).1 = q.1
      split <;> rfl
    rw [this]; exact n
  · rename_i h
    rw [List.map_append, List.map_cons, List.map_nil, List.nodup_append]
    refine ⟨n, by simp, fun a ha b hb => ?_⟩
    have e : b = k := by simpa using hb
    subst e
    intro z
    subst z
    obtain ⟨q, h1, h2⟩ := List.mem_map.mp ha
    exact h (List.any_eq_true.mpr ⟨q, h1, by simp [h2]⟩)
theorem kput_len (kv : List (κ × α)) (k : κ) (v : α) : (kput kv k v).length ≤ kv.length + 1 := by
  unfold kput
  split <;> simp
theorem klook_put (kv : List (κ × α)) (k j : κ) (v : α) : klook (kput kv k v) j = if j = k then some v else klook kv j := by
  unfold kput
  by_cases h : (kv.any fun q => decide (q.1 = k)) = true
  · rw [if_pos h]
    have main : ∀ kv : List (κ × α), klook (kv.map (fun q => if q.1 = k then (q.1, v) else q)) j = if j = k then (if k ∈ kv.map (·.1) then some v else none) else klook kv j := by
      intro kv
      induction kv with
      | nil => simp [klook_nil]
      | cons q kv ih =>
        rw [List.map_cons, klook_cons, ih, klook_cons, List.map_cons]
        by_cases e : q.1 = k
        · rw [if_pos e]
          by_cases e2 : j = k
          · subst e2; simp [e]
          · have : ¬ q.1 = j := fun z => e2 (z.symm.trans e)
            simp [e2, this]
        · rw [if_neg e]
          by_cases e2 : j = k
          · subst e2
            have : ¬ j = q.1 := fun z => e z.symm
            rw [if_neg e, if_pos rfl, if_pos rfl]
            by_cases hm : j ∈ kv.map (·.1)
            · rw [if_pos hm, if_pos (List.mem_cons_of_mem _ hm)]
            · rw [if_neg hm, if_neg (fun z => (List.mem_cons.mp z).elim this hm)]
          · simp [e2]
    rw [main]
    obtain ⟨q, h1, h2⟩ := List.any_eq_true.mp h
    have : k ∈ kv.map (·.1) := List.mem_map.mpr ⟨q, h1, of_decide_eq_true h2⟩
    rw [if_pos this]
  · rw [if_neg h]
    have hk : k ∉ kv.map (·.1) := fun z => by
      obtain ⟨q, h1, h2⟩ := List.mem_map.mp z
      exact h (List.any_eq_true.mpr ⟨q, h1, by simp [h2]⟩)
    clear h
    induction kv with
    | nil =>
      rw [List.nil_append, klook_cons, klook_nil]
      by_cases e : j = k
      · simp [e]
      · have : ¬ k = j := fun z => e z.symm
        simp [e, this]
    | cons q kv ih =>
      rw [List.map_cons, List.mem_cons, not_or] at hk
      rw [List.cons_append, klook_cons, ih hk.2, klook_cons]
      by_cases e : q.1 = j
      · have : ¬ j = k := fun z => hk.1 (z.symm.trans e.symm)
        simp [e, this]
      · simp [e]
end
section
variable {κ α : Type} [DecidableEq κ] [PyKey κ] [Py α] {K : Fg} {H : Hp} {ks : List (Key × V)} {kv : List (κ × α)}
theorem key_eq {a b : κ} : (PyKey.key a : Key) = PyKey.key b ↔ a = b := ⟨fun h => PyKey.inj h, fun h => by rw [h]⟩
theorem KReps.any (r : KReps K H ks kv) (k : κ) : (ks.any fun q => decide (q.1 = PyKey.key k)) = kv.any fun q => decide (q.1 = k) := by
  induction r with
  | nil => rfl
  | cons a b ih =>
    rw [List.any_cons, List.any_cons, ih, a.1]
    congr 1
    exact decide_eq_decide.mpr key_eq
theorem KReps.put {v : V} {x : α} (r : KReps K H ks kv) (k : κ) (rv : rep K H v x) : KReps K H (putK ks (PyKey.key k) v) (kput kv k x) := by
  unfold putK kput
  rw [r.any k]
  split
  · rename_i hx
    clear hx
    induction r with
    | nil => exact .nil
    | @cons a b l1 l2 h t ih =>
      rw [List.map_cons, List.map_cons]
      refine .cons ?_ ih
      by_cases e : b.1 = k
      · have : a.1 = PyKey.key k := by rw [h.1, e]
        rw [if_pos e, if_pos this]
        exact ⟨h.1, rv⟩
      · have : ¬ a.1 = PyKey.key k := fun z => e (PyKey.inj (h.1.symm.trans z))
        rw [if_neg e, if_neg this]
        exact h
  · exact Paired.snoc r ⟨rfl, rv⟩
theorem KReps.none (r : KReps K H ks kv) {k : κ} (h : klook kv k = none) : valV ks (PyKey.key k) = none := by
  induction r with
  | nil => rfl
  | @cons a b l1 l2 hh t ih =>
    rw [klook_cons] at h
    by_cases e : b.1 = k
    · rw [if_pos e] at h; cases h
    · rw [if_neg e] at h
      rw [valV_neg (fun z => e (PyKey.inj (hh.1.symm.trans z)))]
      exact ih h
theorem KReps.some (r : KReps K H ks kv) {k : κ} {x : α} (h : klook kv k = some x) : ∃ v, valV ks (PyKey.key k) = some v ∧ rep K H v x := by
  induction r with
  | nil => simp [klook_nil] at h
  | @cons a b l1 l2 hh t ih =>
    rw [klook_cons] at h
    by_cases e : b.1 = k
    · rw [if_pos e] at h
      cases h
      exact ⟨a.2, valV_pos (by rw [hh.1, e]), hh.2⟩
    · rw [if_neg e] at h
      obtain ⟨v, h1, h2⟩ := ih h
      exact ⟨v, by rw [valV_neg (fun z => e (PyKey.inj (hh.1.symm.trans z)))]; exact h1, h2⟩
theorem KReps.drop (r : KReps K H ks kv) (k : κ) : KReps K H (dropK ks (PyKey.key k)) (kdrop kv k) := by
  unfold dropK kdrop
  induction r with
  | nil => exact .nil
  | @cons a b l1 l2 hh t ih =>
    rw [List.filter_cons, List.filter_cons]
    by_cases e : b.1 = k
    · have : a.1 = PyKey.key k := by rw [hh.1, e]
      simp only [e, this, ne_eq, not_true_eq_false, decide_false, Bool.false_eq_true, if_false]
      exact ih
    · have : ¬ a.1 = PyKey.key k := fun z => e (PyKey.inj (hh.1.symm.trans z))
      simp only [e, this, ne_eq, not_false_eq_true, decide_true, if_true]
      exact .cons hh ih
end
/-- what stands at p shall stay -/
def Wd.fix (W : Wd) (p : Addr) (o : HO) (h : W.H p = some o) : Wd := ⟨upd W.B p o, W.H, fun a u e => by
  by_cases q : a = p
  · subst q; rw [upd_same] at e; cases e; exact .inl h
  · rw [upd_ne q] at e; exact W.sub a u e⟩
theorem md_fix {S : List Addr} {W W' : Wd} (g : Md S W W') {p : Addr} {o : HO} (h : W'.H p = some o) (n : W'.B p = none) (f : W.H p = none) : Md S W (W'.fix p o h) := by
  refine ⟨fun a u e => ?_, fun a u e1 e2 => g.l a u e1 e2, g.o, fun a ha => ?_, g.d⟩
  · have q : a ≠ p := fun z => by rw [z] at e; rw [W.free f] at e; cases e
    show upd W'.B p o a = some u
    rw [upd_ne q]; exact g.b a u e
  · have q : a ≠ p := fun z => ha (by rw [z]; exact f)
    show upd W'.B p o a = W.B a
    rw [upd_ne q]; exact g.m a ha
theorem ex_fix {W : Wd} {p : Addr} {o : HO} (h : W.H p = some o) (n : W.B p = none) : Ex W.B (W.fix p o h).B := fun a u e => by
  have q : a ≠ p := fun z => by rw [z, n] at e; cases e
  show upd W.B p o a = some u
  rw [upd_ne q]; exact e
theorem md_mut {S : List Addr} {W W' : Wd} (g : Md S W W') {p : Addr} {o : HO} (n : W'.B p = none) (f : W.H p = none) : Md S W (W'.put p o n) := by
  refine ⟨g.b, fun a u e1 e2 => ?_, fun a u e1 e2 => ?_, g.m, fun a ha => ?_⟩
  · have q : a ≠ p := fun z => by rw [z, f] at e2; cases e2
    show upd W'.H p o a = some u
    rw [upd_ne q]; exact g.l a u e1 e2
  · have q : a ≠ p := fun z => by rw [z, f] at e2; cases e2
    show upd W'.H p o a = some u
    rw [upd_ne q]; exact g.o a u e1 e2
  · show upd W'.H p o a ≠ none
    by_cases q : a = p
    · rw [q, upd_same]; exact fun z => by cases z
    · rw [upd_ne q]; exact g.d a ha
/-- what I tells stays where only p, which is none of S, changes -/
theorem i_put {ε : Ef} {W : Wd} {p : Addr} {o : HO} (hS : p ∉ ε.S) (i : ε.I W) (n : W.B p = none) : ε.I (W.put p o n) :=
  ε.mv W _ (Evl.Ex.refl _) (fun a h1 _ => ⟨upd_ne fun e => hS (e ▸ h1), rfl⟩) i
theorem i_fix {ε : Ef} {W : Wd} {p : Addr} {o : HO} (hS : p ∉ ε.S) (i : ε.I W) (h : W.H p = some o) (n : W.B p = none) : ε.I (W.fix p o h) :=
  ε.mv W _ (ex_fix h n) (fun a h1 _ => ⟨rfl, upd_ne fun e => hS (e ▸ h1)⟩) i


/-! ### expressions -/
/-- a value of which P is known -/
def EvP (ε : Ef) (te : TE) (σ : SS) (W : Wd) (P : V → Wd → Prop) : Prop := ∀ W1, Stp ε W W1 → ∀ Q : VK, (∀ v W2, Stp ε W1 W2 → P v W2 → Q v W2.H) → te σ W1.H Q
def EvR {α : Type} [Py α] (ε : Ef) (K : Fg) (te : TE) (σ : SS) (W : Wd) (x : α) : Prop :=
  ∀ W1, Stp ε W W1 → ∀ Q : VK, (∀ v W2, Stp ε W1 W2 → rep K W2.B v x → Q v W2.H) → te σ W1.H Q
/-- a dict that is not locked -/
def EvD {κ α : Type} [PyKey κ] [Py α] (ε : Ef) (K : Fg) (te : TE) (σ : SS) (W : Wd) (d : Dict κ α) : Prop :=
  ∀ W1, Stp ε W W1 → ∀ Q : VK, (∀ v W2, Stp ε W1 W2 → DictAt K W2 v d → Q v W2.H) → te σ W1.H Q
def EvT (ε : Ef) (tt : TT) (σ : SS) (W : Wd) (b : Bool) : Prop :=
  ∀ W1, Stp ε W W1 → ∀ Q : Bool → Hp → Prop, (∀ W2, Stp ε W1 W2 → Q b W2.H) → tt σ W1.H Q
def EvAs {α : Type} [Py α] (ε : Ef) (K : Fg) (ta : TA) (σ : SS) (W : Wd) (xs : List α) : Prop :=
  ∀ W1, Stp ε W W1 → ∀ Q : List V → Hp → Prop, (∀ vs W2, Stp ε W1 W2 → Reps K W2.B vs xs → Q vs W2.H) → ta σ W1.H Q
def EvO (ε : Ef) (to : TO) (σ : SS) (W : Wd) (o : Option Int) : Prop := ∀ W1, Stp ε W W1 → ∀ Q : Option Int → Hp → Prop, (∀ W2, Stp ε W1 W2 → Q o W2.H) → to σ W1.H Q
/-- an operation on values, at any later world -/
def RO {α β γ : Type} [Py α] [Py β] [Py γ] (K : Fg) (r : R2) (x : α) (y : β) (z : γ) : Prop :=
  ∀ v u W1, rep K W1.B v x → rep K W1.B u y → ∀ Q : VK, (∀ w W2, Grow W1 W2 → rep K W2.B w z → Q w W2.H) → r v u W1.H Q
def RU {α β : Type} [Py α] [Py β] (K : Fg) (r : V → Hp → VK → Prop) (x : α) (y : β) : Prop :=
  ∀ v W1, rep K W1.B v x → ∀ Q : VK, (∀ w W2, Grow W1 W2 → rep K W2.B w y → Q w W2.H) → r v W1.H Q
def RC1 {α β : Type} [Py α] [Py β] (K : Fg) (r : List V → Hp → VK → Prop) (x : α) (y : β) : Prop :=
  ∀ v W1, rep K W1.B v x → ∀ Q : VK, (∀ w W2, Grow W1 W2 → rep K W2.B w y → Q w W2.H) → r [v] W1.H Q
def RC2 {α β γ : Type} [Py α] [Py β] [Py γ] (K : Fg) (r : List V → Hp → VK → Prop) (x : α) (y : β) (z : γ) : Prop :=
  ∀ v u W1, rep K W1.B v x → rep K W1.B u y → ∀ Q : VK, (∀ w W2, Grow W1 W2 → rep K W2.B w z → Q w W2.H) → r [v, u] W1.H Q
section
variable {α β γ : Type} [Py α] [Py β] [Py γ] {K : Fg} {σ : SS} {W W' : Wd} {v : V} {x : α} {y : β} {z : γ} {ta tb te : TE} {r : R2} {t u : TT} {ε : Ef}
theorem EvR.p (h : EvR ε K te σ W x) : EvP ε te σ W (fun v W => rep K W.B v x) := h
theorem EvP.toR (h : EvP ε te σ W (fun v W => rep K W.B v x)) : EvR ε K te σ W x := h
theorem EvR.s (g : Stp ε W W') (h : EvR ε K te σ W x) : EvR ε K te σ W' x := fun W1 g1 => h W1 (g.trans g1)
theorem EvT.s {b : Bool} (g : Stp ε W W') (h : EvT ε t σ W b) : EvT ε t σ W' b := fun W1 g1 => h W1 (g.trans g1)
theorem EvR.is {x' : α} (h : EvR ε K te σ W x) (e : x = x') : EvR ε K te σ W x' := e ▸ h
theorem EvT.is {b b' : Bool} (h : EvT ε t σ W b) (e : b = b') : EvT ε t σ W b' := e ▸ h
theorem EvD.rep {κ : Type} [PyKey κ] {d : Dict κ α} (h : EvD ε K te σ W d) : EvR ε K te σ W d := fun W1 g1 Q k => h W1 g1 Q fun v W2 g2 r => k v W2 g2 r.rep
/-- what leaves the heap as it is, whatever the effect around -/
theorem ev_pure (h : ∀ W1, On W W1 → EvR pur K te σ W1 x) : EvR ε K te σ W x := fun W1 g1 Q k => h W1 g1.on W1 (.start trivial) Q fun v W2 g2 r => k v W2 (g1.rf.and g2.pure) r
theorem ev_pureD {κ : Type} [PyKey κ] {d : Dict κ α} (h : ∀ W1, On W W1 → EvD pur K te σ W1 d) : EvD ε K te σ W d := fun W1 g1 Q k => h W1 g1.on W1 (.start trivial) Q fun v W2 g2 r => k v W2 (g1.rf.and g2.pure) r
theorem et_pure {b : Bool} (h : ∀ W1, On W W1 → EvT pur t σ W1 b) : EvT ε t σ W b := fun W1 g1 Q k => h W1 g1.on W1 (.start trivial) Q fun W2 g2 => k W2 (g1.rf.and g2.pure)
theorem ev_var {i : Nat} (h : σ[i]? = some (some v)) (r : rep K W.B v x) : EvR ε K (tVar i) σ W x := fun W1 g1 Q k => ⟨v, h, k v W1 g1.rf (rep_s g1 r)⟩
theorem ev_dvar {κ : Type} [PyKey κ] {d : Dict κ α} {i : Nat} (h : σ[i]? = some (some v)) (r : DictAt K W v d) : EvD ε K (tVar i) σ W d := fun W1 g1 Q k => ⟨v, h, k v W1 g1.rf (r.s g1)⟩
theorem ev_int {n : Int} : EvR ε K (tC (.int n)) σ W n := fun W1 g1 Q k => k _ W1 g1.rf rfl
theorem ev_bl {n : Bool} : EvR ε K (tC (.bl n)) σ W n := fun W1 g1 Q k => k _ W1 g1.rf rfl
theorem ev_str {n : Str} : EvR ε K (tC (.str n)) σ W n := fun W1 g1 Q k => k _ W1 g1.rf rfl
theorem ev_non : EvR ε K (tC .non) σ W () := fun W1 g1 Q k => k _ W1 g1.rf rfl
theorem ev_raw {n : V} : EvR ε K (tC n) σ W (Raw.mk n) := fun W1 g1 Q k => k _ W1 g1.rf rfl
theorem ev_rvar {i : Nat} (h : σ[i]? = some (some v)) : EvR ε K (tVar i) σ W (Raw.mk v) := fun W1 g1 Q k => ⟨v, h, k v W1 g1.rf rfl⟩
theorem ev_op (ha : EvR ε K ta σ W x) (hb : EvR ε K tb σ W y) (hr : RO K r x y z) : EvR ε K (tOp r ta tb) σ W z := fun W1 g1 Q k =>
  ha W1 g1 _ fun a W2 g2 ra => hb W2 (g1.trans g2) _ fun b W3 g3 rb => hr a b W3 (rep_s g3 ra) rb Q fun w W4 g4 rw' => k w W4 ((g2.trans g3).and g4) rw'
theorem ev_un {r : V → Hp → VK → Prop} (ha : EvR ε K ta σ W x) (hr : RU K r x y) : EvR ε K (tUn r ta) σ W y := fun W1 g1 Q k =>
  ha W1 g1 _ fun a W2 g2 ra => hr a W2 ra Q fun w W4 g4 rw' => k w W4 (g2.and g4) rw'
theorem ev_cb1 {r : List V → Hp → VK → Prop} (ha : EvR ε K ta σ W x) (hr : RC1 K r x y) : EvR ε K (tCB r (tCons ta tNil)) σ W y := fun W1 g1 Q k =>
  ha W1 g1 _ fun a W2 g2 ra => hr a W2 ra Q fun w W4 g4 rw' => k w W4 (g2.and g4) rw'
theorem ev_cb2 {r : List V → Hp → VK → Prop} (ha : EvR ε K ta σ W x) (hb : EvR ε K tb σ W y) (hr : RC2 K r x y z) : EvR ε K (tCB r (tCons ta (tCons tb tNil))) σ W z := fun W1 g1 Q k =>
  ha W1 g1 _ fun a W2 g2 ra => hb W2 (g1.trans g2) _ fun b W3 g3 rb => hr a b W3 (rep_s g3 ra) rb Q fun w W4 g4 rw' => k w W4 ((g2.trans g3).and g4) rw'
/-- a value that leaves the heap as it is -/
theorem ro_val (f : ∀ (v u : V) (W1 : Wd), rep K W1.B v x → rep K W1.B u y → ∀ Q : VK, (∀ w, rep K W1.B w z → Q w W1.H) → r v u W1.H Q) : RO K r x y z :=
  fun v u W1 rv ru Q k => f v u W1 rv ru Q fun w rw' => k w W1 (.refl _ _) rw'
theorem ro_I0 {g : Int → Int → Int} {i j : Int} : RO K (rI0 fun i j => .int (g i j)) i j (g i j) := ro_val fun _ _ _ rv ru Q k => ⟨i, j, rv, ru, k _ rfl⟩
theorem ro_B0 {g : Int → Int → Bool} {i j : Int} : RO K (rI0 fun i j => .bl (g i j)) i j (g i j) := ro_val fun _ _ _ rv ru Q k => ⟨i, j, rv, ru, k _ rfl⟩
theorem ro_I {C : Int → Int → Prop} {g : Int → Int → Int} {i j : Int} (hc : C i j) : RO K (rI C fun i j => .int (g i j)) i j (g i j) := ro_val fun _ _ _ rv ru Q k => ⟨i, j, rv, ru, hc, k _ rfl⟩
theorem ru_neg {i : Int} : RU K (rU fun i => .int (-i)) i (-i) := fun v W1 rv Q k => ⟨i, rv, k _ W1 (.refl _ _) rfl⟩
theorem ro_eqI {i j : Int} : RO K rEq i j (decide (i = j)) := ro_val fun v u _ rv ru Q k => by
  have e1 : v = .int i := rv
  have e2 : u = .int j := ru
  subst e1; subst e2
  refine ⟨rfl, k _ ?_⟩
  show V.bl _ = V.bl _
  congr 1
  simp
theorem ro_neI {i j : Int} : RO K rNe i j (!decide (i = j)) := ro_val fun v u _ rv ru Q k => by
  have e1 : v = .int i := rv
  have e2 : u = .int j := ru
  subst e1; subst e2
  refine ⟨rfl, k _ ?_⟩
  show V.bl _ = V.bl _
  congr 1
  simp
theorem ro_eqS {i j : Str} : RO K rEq i j (decide (i = j)) := ro_val fun v u _ rv ru Q k => by
  have e1 : v = .str i := rv
  have e2 : u = .str j := ru
  subst e1; subst e2
  refine ⟨rfl, k _ ?_⟩
  show V.bl _ = V.bl _
  congr 1
  simp
theorem ro_neS {i j : Str} : RO K rNe i j (!decide (i = j)) := ro_val fun v u _ rv ru Q k => by
  have e1 : v = .str i := rv
  have e2 : u = .str j := ru
  subst e1; subst e2
  refine ⟨rfl, k _ ?_⟩
  show V.bl _ = V.bl _
  congr 1
  simp
theorem ro_eqB {i j : Bool} : RO K rEq i j (decide (i = j)) := ro_val fun v u _ rv ru Q k => by
  have e1 : v = .bl i := rv
  have e2 : u = .bl j := ru
  subst e1; subst e2
  refine ⟨rfl, k _ ?_⟩
  show V.bl _ = V.bl _
  congr 1
  simp
theorem ro_neB {i j : Bool} : RO K rNe i j (!decide (i = j)) := ro_val fun v u _ rv ru Q k => by
  have e1 : v = .bl i := rv
  have e2 : u = .bl j := ru
  subst e1; subst e2
  refine ⟨rfl, k _ ?_⟩
  show V.bl _ = V.bl _
  congr 1
  simp
/-! places -/
theorem atI_ix {ζ : Type} {xs : List ζ} {i : Int} {v : ζ} (h : atI xs i = some v) : ∃ j, ixN xs.length i = some j ∧ xs[j]? = some v := by
  unfold atI at h
  cases e : ixN xs.length i with
  | none => rw [e] at h; cases h
  | some j => rw [e] at h; exact ⟨j, rfl, h⟩
theorem reps_at {vs : List V} {xs : List α} {H : Hp} {i : Int} (h : Reps K H vs xs) (e : atI xs i = some x) : ∃ v, atI vs i = some v ∧ rep K H v x := by
  obtain ⟨j, e1, e2⟩ := atI_ix e
  obtain ⟨v, h1, h2⟩ := Reps.get' h e2
  refine ⟨v, ?_, h2⟩
  unfold atI
  rw [Reps.len h, e1]
  exact h1
theorem ro_ixL {xs : List α} {i : Int} (h : atI xs i = some x) : RO K (rIxL K) xs i x := ro_val fun v u W1 rv ru Q k => by
  obtain ⟨a, vs, e1, s, r⟩ := rv
  have e2 : u = .int i := ru
  subst e1; subst e2
  obtain ⟨w, h1, h2⟩ := reps_at r h
  exact ⟨a, vs, i, w, rfl, rfl, SqL.of (W1.sub.el s), h1, k w h2⟩
theorem ro_ixT {xs : Tup α} {i : Int} (h : atI xs.items i = some x) : RO K (rIxT K) xs i x := ro_val fun v u W1 rv ru Q k => by
  obtain ⟨a, vs, e1, s, r⟩ := rv
  have e2 : u = .int i := ru
  subst e1; subst e2
  obtain ⟨w, h1, h2⟩ := reps_at r h
  exact ⟨a, vs, i, w, rfl, rfl, SqT.of (W1.sub.et s), h1, k w h2⟩
theorem ro_ixP0 {p : α × β} : RO K (rIxT K) p (0 : Int) p.1 := ro_val fun v u W1 rv ru Q k => by
  obtain ⟨a, x, y, e1, s, r1, r2⟩ := rv
  have e2 : u = .int 0 := ru
  subst e1; subst e2
  exact ⟨a, _, 0, x, rfl, rfl, SqT.of (W1.sub.et s), rfl, k x r1⟩
theorem ro_ixP1 {p : α × β} : RO K (rIxT K) p (1 : Int) p.2 := ro_val fun v u W1 rv ru Q k => by
  obtain ⟨a, x, y, e1, s, r1, r2⟩ := rv
  have e2 : u = .int 1 := ru
  subst e1; subst e2
  exact ⟨a, _, 1, y, rfl, rfl, SqT.of (W1.sub.et s), rfl, k y r2⟩
theorem ro_eqT [DecidableEq α] [Datum α] [PyD α] {x y : α} (hd : Datum.depth α ≤ 60) : RO K (rEqT K false) x y (decide (x = y)) := ro_val fun v u W1 rv ru Q k => ⟨α, _, _, x, y, PyD.dp (rep_h rv), PyD.dp (rep_h ru), hd, k _ rfl⟩
theorem ro_neT [DecidableEq α] [Datum α] [PyD α] {x y : α} (hd : Datum.depth α ≤ 60) : RO K (rEqT K true) x y (!decide (x = y)) := ro_val fun v u W1 rv ru Q k => ⟨α, _, _, x, y, PyD.dp (rep_h rv), PyD.dp (rep_h ru), hd, k _ rfl⟩
theorem ro_ltT [DecidableEq α] [DatumOrd α] [PyD α] {x y : α} (hd : Datum.depth α ≤ 60) : RO K (rLtT K) x y (DatumOrd.lt x y) := ro_val fun v u W1 rv ru Q k => ⟨α, _, _, x, y, PyD.dp (rep_h rv), PyD.dp (rep_h ru), hd, k _ rfl⟩
theorem ro_inL [DecidableEq α] [Datum α] [PyD α] {x : α} {y : List α} (hd : Datum.depth α ≤ 60) : RO K (rInTL K false) x y (decide (x ∈ y)) := ro_val fun v u W1 rv ru Q k => ⟨α, _, _, x, y, PyD.dp (rep_h rv), PyD.dp (rep_h ru), hd, k _ rfl⟩
theorem ro_ninL [DecidableEq α] [Datum α] [PyD α] {x : α} {y : List α} (hd : Datum.depth α ≤ 60) : RO K (rInTL K true) x y (!decide (x ∈ y)) := ro_val fun v u W1 rv ru Q k => ⟨α, _, _, x, y, PyD.dp (rep_h rv), PyD.dp (rep_h ru), hd, k _ rfl⟩
theorem ro_inT [DecidableEq α] [Datum α] [PyD α] {x : α} {y : Tup α} (hd : Datum.depth α ≤ 60) : RO K (rInTT K false) x y (decide (x ∈ y.items)) := ro_val fun v u W1 rv ru Q k => ⟨α, _, _, x, y, PyD.dp (rep_h rv), PyD.dp (rep_h ru), hd, k _ rfl⟩
theorem ro_ninT [DecidableEq α] [Datum α] [PyD α] {x : α} {y : Tup α} (hd : Datum.depth α ≤ 60) : RO K (rInTT K true) x y (!decide (x ∈ y.items)) := ro_val fun v u W1 rv ru Q k => ⟨α, _, _, x, y, PyD.dp (rep_h rv), PyD.dp (rep_h ru), hd, k _ rfl⟩
/-- a new list that may change -/
def EvN (ε : Ef) (K : Fg) (te : TE) (σ : SS) (W : Wd) (xs : List α) : Prop :=
  ∀ W1, Stp ε W W1 → ∀ Q : VK, (∀ p vs W2, Stp ε W1 W2 → W1.H p = none → W2.B p = none → W2.H p = some (.lst vs) → Reps K W2.B vs xs → Q (.ref p) W2.H) → te σ W1.H Q
theorem Stp.fix {W W' : Wd} (g : Stp ε W W') {p : Addr} {o : HO} (f : W.H p = none) (i : ε.I W) (h : W'.H p = some o) (n : W'.B p = none) : Stp ε W (W'.fix p o h) :=
  ⟨md_fix g.md h n f, i_fix (fun z => ε.dom W p i z f) g.i h n⟩
theorem EvN.toR {xs : List α} (h : EvN ε K te σ W xs) : EvR ε K te σ W xs := fun W1 g1 Q k => h W1 g1 Q fun p vs W2 g2 f n e r =>
  k _ (W2.fix p _ e) (g2.fix f g1.i e n) ⟨p, vs, rfl, upd_same, Reps.mono (exExt (ex_fix e n)) r⟩
/-! displays -/
theorem ea_nil : EvAs ε K tNil σ W ([] : List α) := fun W1 g1 Q k => k [] W1 g1.rf .nil
theorem ea_cons {tr : TA} {xs : List α} (h : EvR ε K ta σ W x) (hr : EvAs ε K tr σ W xs) : EvAs ε K (tCons ta tr) σ W (x :: xs) := fun W1 g1 Q k =>
  h W1 g1 _ fun a W2 g2 ra => hr W2 (g1.trans g2) _ fun vs W3 g3 rs => k (a :: vs) W3 (g2.trans g3) (.cons (rep_s g3 ra) rs)
theorem ev_lst {ta : TA} {xs : List α} (h : EvAs ε K ta σ W xs) (hl : xs.length ≤ 100000) : EvR ε K (tLst ta) σ W xs := fun W1 g1 Q k =>
  h W1 g1 _ fun vs W2 g2 rs => ⟨Evl.sz_of (by rw [Reps.len rs]; exact hl), fun p hp => k _ (W2.add p (.lst vs)) (g2.and (W2.grow_add hp)) ⟨p, vs, rfl, upd_same, Reps.mono (exExt (W2.grow_add hp).b) rs⟩⟩
theorem en_lst {ta : TA} {xs : List α} (h : EvAs ε K ta σ W xs) (hl : xs.length ≤ 100000) : EvN ε K (tLst ta) σ W xs := fun W1 g1 Q k =>
  h W1 g1 _ fun vs W2 g2 rs => ⟨Evl.sz_of (by rw [Reps.len rs]; exact hl), fun p hp => k p vs (W2.put p (.lst vs) (W2.free hp)) (g2.and (W2.grow_put hp)) (by
    cases e : W1.H p with
    | none => rfl
    | some o => exact absurd hp (g2.md.d p (by rw [e]; exact fun z => by cases z))) (W2.free hp) upd_same rs⟩
theorem ev_tupN {ta : TA} {xs : List α} (h : EvAs ε K ta σ W xs) (hl : xs.length ≤ 100000) : EvR ε K (tTup ta) σ W (Tup.mk xs) := fun W1 g1 Q k =>
  h W1 g1 _ fun vs W2 g2 rs => ⟨Evl.sz_of (by rw [Reps.len rs]; exact hl), fun p hp => k _ (W2.add p (.tup vs)) (g2.and (W2.grow_add hp)) ⟨p, vs, rfl, upd_same, Reps.mono (exExt (W2.grow_add hp).b) rs⟩⟩
theorem ev_pair (ha : EvR ε K ta σ W x) (hb : EvR ε K tb σ W y) : EvR ε K (tTup (tCons ta (tCons tb tNil))) σ W (x, y) := fun W1 g1 Q k =>
  ha W1 g1 _ fun a W2 g2 ra => hb W2 (g1.trans g2) _ fun b W3 g3 rb => ⟨Evl.sz_of (by show 2 ≤ 100000; decide), fun p hp =>
    k _ (W3.add p (.tup [a, b])) ((g2.trans g3).and (W3.grow_add hp)) ⟨p, a, b, rfl, upd_same, rep_g (W3.grow_add hp) (rep_s g3 ra), rep_g (W3.grow_add hp) rb⟩⟩
theorem ev_t3 {tc : TE} (ha : EvR ε K ta σ W x) (hb : EvR ε K tb σ W y) (hc : EvR ε K tc σ W z) : EvR ε K (tTup (tCons ta (tCons tb (tCons tc tNil)))) σ W (T3.mk x y z) := fun W1 g1 Q k =>
  ha W1 g1 _ fun a W2 g2 ra => hb W2 (g1.trans g2) _ fun b W3 g3 rb => hc W3 ((g1.trans g2).trans g3) _ fun c W4 g4 rc => ⟨Evl.sz_of (by show 3 ≤ 100000; decide), fun p hp =>
    k _ (W4.add p (.tup [a, b, c])) (((g2.trans g3).trans g4).and (W4.grow_add hp)) ⟨p, a, b, c, rfl, upd_same, rep_g (W4.grow_add hp) (rep_s g4 (rep_s g3 ra)), rep_g (W4.grow_add hp) (rep_s g4 rb), rep_g (W4.grow_add hp) rc⟩⟩
/-! tests -/
theorem et_test {b : Bool} (h : EvR ε K te σ W b) : EvT ε (tTest te) σ W b := fun W1 g1 Q k => h W1 g1 _ fun v W2 g2 r => ⟨b, r, k W2 g2⟩
theorem et_B {b : Bool} (h : EvR ε K te σ W b) : EvT ε (tB te) σ W b := fun W1 g1 Q k => h W1 g1 _ fun v W2 g2 r => ⟨b, r, k W2 g2⟩
theorem et_and {a b : Bool} (h1 : EvT ε t σ W a) (h2 : a = true → EvT ε u σ W b) : EvT ε (tAnd t u) σ W (a && b) := fun W1 g1 Q k => h1 W1 g1 _ fun W2 g2 => by
  cases a with
  | false => exact k W2 g2
  | true => exact h2 rfl W2 (g1.trans g2) _ fun W3 g3 => k W3 (g2.trans g3)
theorem et_or {a b : Bool} (h1 : EvT ε t σ W a) (h2 : a = false → EvT ε u σ W b) : EvT ε (tOr t u) σ W (a || b) := fun W1 g1 Q k => h1 W1 g1 _ fun W2 g2 => by
  cases a with
  | true => exact k W2 g2
  | false => exact h2 rfl W2 (g1.trans g2) _ fun W3 g3 => k W3 (g2.trans g3)
theorem et_not {a : Bool} (h1 : EvT ε t σ W a) : EvT ε (tNot t) σ W (!a) := fun W1 g1 Q k => h1 W1 g1 _ fun W2 g2 => k W2 g2
theorem ev_andV {a b : Bool} (h1 : EvR ε K ta σ W a) (h2 : a = true → EvR ε K tb σ W b) : EvR ε K (tAndV ta tb) σ W (a && b) := fun W1 g1 Q k => h1 W1 g1 _ fun v W2 g2 r => ⟨a, r, by
  cases a with
  | false => exact k _ W2 g2 rfl
  | true => exact h2 rfl W2 (g1.trans g2) _ fun v W3 g3 r => k v W3 (g2.trans g3) r⟩
theorem ev_orV {a b : Bool} (h1 : EvR ε K ta σ W a) (h2 : a = false → EvR ε K tb σ W b) : EvR ε K (tOrV ta tb) σ W (a || b) := fun W1 g1 Q k => h1 W1 g1 _ fun v W2 g2 r => ⟨a, r, by
  cases a with
  | true => exact k _ W2 g2 rfl
  | false => exact h2 rfl W2 (g1.trans g2) _ fun v W3 g3 r => k v W3 (g2.trans g3) r⟩
theorem ev_notV {a : Bool} (h1 : EvR ε K ta σ W a) : EvR ε K (tNotV ta) σ W (!a) := fun W1 g1 Q k => h1 W1 g1 _ fun v W2 g2 r => ⟨a, r, k _ W2 g2 rfl⟩
theorem ev_if {b : Bool} {x' : α} (h : EvT ε t σ W b) (h1 : b = true → EvR ε K ta σ W x) (h2 : b = false → EvR ε K tb σ W x') : EvR ε K (tIf t ta tb) σ W (if b then x else x') := fun W1 g1 Q k => h W1 g1 _ fun W2 g2 => by
  cases b with
  | true => exact h1 rfl W2 (g1.trans g2) _ fun v W3 g3 r => k v W3 (g2.trans g3) r
  | false => exact h2 rfl W2 (g1.trans g2) _ fun v W3 g3 r => k v W3 (g2.trans g3) r
/-! calls of built-ins -/
def rMin2 : List V → Hp → VK → Prop := fun xs H Q => ∃ i j, xs = [.int i, .int j] ∧ Q (.int (if j < i then j else i)) H
def rMax2 : List V → Hp → VK → Prop := fun xs H Q => ∃ i j, xs = [.int i, .int j] ∧ Q (.int (if j > i then j else i)) H
def rAbs : List V → Hp → VK → Prop := fun xs H Q => ∃ i, xs = [.int i] ∧ Q (.int (if i < 0 then -i else i)) H
def rLen (K : Fg) : List V → Hp → VK → Prop := fun xs H Q => ∃ p ys, xs = [.ref p] ∧ (SqL K H p ys ∨ SqT K H p ys) ∧ Q (.int ys.length) H
def rLenS : List V → Hp → VK → Prop := fun xs H Q => ∃ z, xs = [.str z] ∧ z.length ≤ sizeLine ∧ Q (.int z.length) H
def rListO (K : Fg) : List V → Hp → VK → Prop := fun xs H Q => ∃ p ys, xs = [.ref p] ∧ (SqL K H p ys ∨ SqT K H p ys) ∧ ∀ l, H l = none → Q (.ref l) (upd H l (.lst ys))
def rDictC : List V → Hp → VK → Prop := fun xs H Q => ∃ a kvs, xs = [.ref a] ∧ Rd H a (.dK kvs) ∧ ∀ p, H p = none → Q (.ref p) (upd H p (.dK kvs))
section
variable {X : Cx}
theorem cr_min2 (hc : X.calm = true) : CallR X (.builtin "min") rMin2 := call_min2 hc
theorem cr_max2 (hc : X.calm = true) : CallR X (.builtin "max") rMax2 := call_max2 hc
theorem cr_abs : CallR X (.builtin "abs") rAbs := call_abs
theorem cr_len : CallR X (.builtin "len") (rLen X.K) := call_len_seq
theorem cr_lenS : CallR X (.builtin "len") rLenS := call_len_str
theorem cr_listO : CallR X (.type "list") (rListO X.K) := call_list_of
theorem cr_dictC : CallR X (.type "dict") rDictC := by
  intro pins s σ H xs us Q I r h
  obtain ⟨a, kvs, rfl, rd, k⟩ := h
  cases r with
  | cons r rr =>
    cases rr
    cases r
    exact d_copyOf I rd fun p s' hp I' => ⟨.ref p, _, I', rfl, k p hp⟩
end
theorem rc_min2 {i j : Int} : RC2 K rMin2 i j (if j < i then j else i) := fun v u W1 rv ru Q k => ⟨i, j, by rw [show v = _ from rv, show u = _ from ru], k _ W1 (.refl _ _) rfl⟩
theorem rc_max2 {i j : Int} : RC2 K rMax2 i j (if j > i then j else i) := fun v u W1 rv ru Q k => ⟨i, j, by rw [show v = _ from rv, show u = _ from ru], k _ W1 (.refl _ _) rfl⟩
theorem rc_abs {i : Int} : RC1 K rAbs i (if i < 0 then -i else i) := fun v W1 rv Q k => ⟨i, by rw [show v = _ from rv], k _ W1 (.refl _ _) rfl⟩
theorem rc_len {xs : List α} : RC1 K (rLen K) xs (xs.length : Int) := fun v W1 ⟨a, vs, e, s, r⟩ Q k => ⟨a, vs, by rw [e], .inl (SqL.of (W1.sub.el s)), by
  rw [Reps.len r]; exact k _ W1 (.refl _ _) rfl⟩
theorem rc_lenT {xs : Tup α} : RC1 K (rLen K) xs (xs.items.length : Int) := fun v W1 ⟨a, vs, e, s, r⟩ Q k => ⟨a, vs, by rw [e], .inr (SqT.of (W1.sub.et s)), by
  rw [Reps.len r]; exact k _ W1 (.refl _ _) rfl⟩
theorem rc_lenS {x : Str} (h : x.length ≤ 100000) : RC1 K rLenS x (x.length : Int) := fun v W1 e Q k => ⟨x, by rw [show v = _ from e], Evl.sz_of h, k _ W1 (.refl _ _) rfl⟩
theorem rc_list {xs : List α} : RC1 K (rListO K) xs xs := fun v W1 ⟨a, vs, e, s, r⟩ Q k => ⟨a, vs, by rw [e], .inl (SqL.of (W1.sub.el s)), fun l hl =>
  k _ (W1.add l (.lst vs)) (W1.grow_add hl) ⟨l, vs, rfl, upd_same, Reps.mono (exExt (W1.grow_add hl).b) r⟩⟩
theorem rc_listT {xs : Tup α} : RC1 K (rListO K) xs xs.items := fun v W1 ⟨a, vs, e, s, r⟩ Q k => ⟨a, vs, by rw [e], .inr (SqT.of (W1.sub.et s)), fun l hl =>
  k _ (W1.add l (.lst vs)) (W1.grow_add hl) ⟨l, vs, rfl, upd_same, Reps.mono (exExt (W1.grow_add hl).b) r⟩⟩
theorem rc_sum {xs : List Int} : RC1 K (rSum K) xs xs.sum := fun v W1 ⟨a, vs, e, s, r⟩ Q k => ⟨a, xs, by rw [e], by rw [← reps_int r]; exact SqL.of (W1.sub.el s), k _ W1 (.refl _ _) rfl⟩
/-- sorted: whatever stands in order with the same items -/
theorem rc_sortedI {xs ys : List Int} (hp : ys.Perm xs) (ho : ys.Pairwise (· ≤ ·)) : RC1 K (rSortedI K) xs ys := fun v W1 ⟨a, vs, e, s, r⟩ Q k => ⟨a, xs, by rw [e], by rw [← reps_int r]; exact SqL.of (W1.sub.el s), fun ns' p h1 h2 hp0 => by
  have e2 : ns' = ys := (h1.trans hp.symm).eq_of_pairwise (fun a b _ _ h h' => Int.le_antisymm h h') h2 ho
  subst e2
  exact k _ (W1.add p _) (W1.grow_add hp0) ⟨p, _, rfl, upd_same, int_reps _⟩⟩
theorem rc_all {xs : List Bool} : RC1 K (rAll K) xs (xs.all id) := fun v W1 ⟨a, vs, e, s, r⟩ Q k => ⟨a, xs, by rw [e], by rw [← reps_bl r]; exact SqL.of (W1.sub.el s), k _ W1 (.refl _ _) rfl⟩
theorem rc_any {xs : List Bool} : RC1 K (rAny K) xs (xs.any id) := fun v W1 ⟨a, vs, e, s, r⟩ Q k => ⟨a, xs, by rw [e], by rw [← reps_bl r]; exact SqL.of (W1.sub.el s), k _ W1 (.refl _ _) rfl⟩
/-- isinstance of one built-in class -/
theorem rc_isi {c a : String} {b : Bool} (ht : ∀ (W1 : Wd) v, rep K W1.B v x → TyX K W1.H v (.type a)) (hk : kitB a c = some b) : RC2 K (rIsi K) x (Raw.mk (.ty c)) b := fun v u W1 rv ru Q k =>
  ⟨v, u, .type a, .type c, b, by rw [show u = _ from ru], by rw [show u = _ from ru]; exact .ty c, ht W1 v rv, kit_ty hk, k _ W1 (.refl _ _) rfl⟩
theorem ty_int {i : Int} (W1 : Wd) (v : V) (h : rep K W1.B v i) : TyX K W1.H v (.type "int") := by rw [show v = _ from h]; exact .base (.int i)
theorem ty_str {i : Str} (W1 : Wd) (v : V) (h : rep K W1.B v i) : TyX K W1.H v (.type "str") := by rw [show v = _ from h]; exact .base (.str i)
theorem ty_bl {i : Bool} (W1 : Wd) (v : V) (h : rep K W1.B v i) : TyX K W1.H v (.type "bool") := by rw [show v = _ from h]; exact .base (.bl i)
theorem ty_non (W1 : Wd) (v : V) (h : rep K W1.B v ()) : TyX K W1.H v (.type "NoneType") := by rw [show v = _ from h]; exact .base .non
/-- {} -/
theorem ed_new {κ : Type} [PyKey κ] : EvD ε K tDNewK σ W (⟨[]⟩ : Dict κ α) := fun W1 g1 Q k p hp => k _ (W1.add p (.dK [])) (g1.rf.and (W1.grow_add hp)) ⟨p, [], rfl, upd_same, upd_same, .nil⟩
/-- dict(d) -/
theorem ed_copy {κ : Type} [PyKey κ] {d : Dict κ α} (h : EvR ε K te σ W d) : EvD ε K (tCB rDictC (tCons te tNil)) σ W d := fun W1 g1 Q k => h W1 g1 _ fun v W2 g2 ⟨a, ks, e, rd, r⟩ =>
  ⟨a, ks, by rw [e], W2.sub.rd rd, fun p hp => k _ (W2.add p (.dK ks)) (g2.and (W2.grow_add hp)) ⟨p, ks, rfl, upd_same, upd_same, KReps.mono (exExt (W2.grow_add hp).b) r⟩⟩
/-- list(d.items()) of an unlocked dict -/
theorem ev_listItems {κ : Type} [PyKV κ] {d : Dict κ α} (h : EvD ε K te σ W d) : EvR ε K (LiI.tListItems te) σ W d.kv := fun W1 g1 Q k => h W1 g1 _ fun v W2 g2 ⟨a, ks, e, hB, hH, r⟩ => by
  refine ⟨a, ks, e, hH, fun H' p ts hx hp hts hpt hl hpr => ?_⟩
  -- the new world
  let B' : Hp := fun b => match W2.B b with
    | some o => some o
    | none => if b = p then H' p else if b ∈ ts then H' b else none
  have hB' : ∀ b o, W2.B b = some o → B' b = some o := fun b o q => by show (match W2.B b with | some o => some o | none => _) = some o; rw [q]
  have hnew : ∀ b, W2.H b = none → B' b = (if b = p then H' p else if b ∈ ts then H' b else none) := fun b q => by
    show (match W2.B b with | some o => some o | none => _) = _
    rw [W2.free q]
  have sub : Ext B' H' := fun b o q => by
    cases e2 : W2.B b with
    | some o' =>
      have : B' b = some o' := hB' b o' e2
      rw [this] at q; cases q
      rcases W2.sub b o e2 with h1 | ⟨h0, ob, h1⟩
      · exact .inl (hx b o h1)
      · exact .inr ⟨h0, ob, hx b _ h1⟩
    | none =>
      have : B' b = (if b = p then H' p else if b ∈ ts then H' b else none) := by
        show (match W2.B b with | some o => some o | none => _) = _
        rw [e2]
      rw [this] at q
      by_cases z : b = p
      · rw [if_pos z] at q; rw [z]; exact .inl q
      · rw [if_neg z] at q
        by_cases z2 : b ∈ ts
        · rw [if_pos z2] at q; exact .inl q
        · rw [if_neg z2] at q; cases q
  let W3 : Wd := ⟨B', H', sub⟩
  have gr : Grow W2 W3 := .mk hB' hx fun b hb => by
    show B' b = W2.B b
    cases e2 : W2.B b with
    | some o' => exact hB' b o' e2
    | none =>
      have : B' b = (if b = p then H' p else if b ∈ ts then H' b else none) := by
        show (match W2.B b with | some o => some o | none => _) = _
        rw [e2]
      rw [this, if_neg (fun z => hb (by rw [z]; exact hp)), if_neg (fun z => hb (hts b z))]
  refine k _ W3 (g2.and gr) ⟨p, ts.map V.ref, rfl, by show B' p = _; rw [hnew p hp, if_pos rfl]; exact hl, ?_⟩
  have r3 : KReps K W3.B ks d.kv := KReps.mono (exExt gr.b) r
  clear k
  have hts' : ∀ t ∈ ts, B' t = H' t := fun t ht => by
    rw [hnew t (hts t ht), if_neg (fun z => hpt (by rw [← z]; exact ht)), if_pos ht]
  have main : ∀ (ts : List Addr) (ks : List (Key × V)) (kv : List (κ × α)), (∀ t ∈ ts, B' t = H' t) → Paired (fun (t : Addr) (q : Key × V) => H' t = some (.tup [kV q.1, q.2])) ts ks → KReps K B' ks kv → Reps K B' (ts.map V.ref) kv := by
    intro ts
    induction ts with
    | nil => intro ks kv _ a b; cases a; cases b; exact .nil
    | cons t ts ih =>
      intro ks kv h a b
      cases a with
      | cons a1 a2 =>
        cases b with
        | cons b1 b2 =>
          refine .cons ⟨t, _, _, rfl, (h t List.mem_cons_self).trans a1, ?_, b1.2⟩ (ih _ _ (fun t' ht' => h t' (List.mem_cons_of_mem _ ht')) a2 b2)
          rw [b1.1]
          exact PyKV.krep _ _ _
  exact main ts ks d.kv hts' hpr r3
/-! slices -/
def cutL (xs : List α) (lo hi : Option Int) : List α := (xs.drop (HT.sIx xs.length 0 lo)).take (HT.sIx xs.length xs.length hi - HT.sIx xs.length 0 lo)
theorem eo_none : EvO ε tNoPart σ W none := fun W1 g1 Q k => k W1 g1.rf
theorem eo_some {i : Int} (h : EvR ε K te σ W i) : EvO ε (tPart te) σ W (some i) := fun W1 g1 Q k => h W1 g1 _ fun v W2 g2 r => ⟨i, r, k W2 g2⟩
theorem ev_slL {tl th : TO} {xs : List α} {lo hi : Option Int} (h : EvR ε K te σ W xs) (h1 : EvO ε tl σ W lo) (h2 : EvO ε th σ W hi) : EvR ε K (tSl (rSlL K) te tl th) σ W (cutL xs lo hi) := fun W1 g1 Q k =>
  h W1 g1 _ fun v W2 g2 rx => h1 W2 (g1.trans g2) _ fun W3 g3 => h2 W3 ((g1.trans g2).trans g3) _ fun W4 g4 => by
    obtain ⟨a, vs, e, s, r⟩ := rep_s g4 (rep_s g3 rx)
    refine ⟨a, vs, e, SqL.of (W4.sub.el s), fun p hp => k _ (W4.add p _) (((g2.trans g3).trans g4).and (W4.grow_add hp)) ⟨p, _, rfl, upd_same, Reps.mono (exExt (W4.grow_add hp).b) ?_⟩⟩
    unfold cutV cutL
    rw [Reps.len r]
    exact Reps.take _ (Reps.drop _ r)
theorem ev_revL {xs : List α} (h : EvR ε K te σ W xs) : EvR ε K (tRevL K te) σ W xs.reverse := fun W1 g1 Q k => h W1 g1 _ fun v W2 g2 ⟨a, vs, e, s, r⟩ =>
  ⟨a, vs, e, SqL.of (W2.sub.el s), fun p hp => k _ (W2.add p _) (g2.and (W2.grow_add hp)) ⟨p, _, rfl, upd_same, Reps.mono (exExt (W2.grow_add hp).b) (Reps.rev r)⟩⟩
end

/-! ### what is walked -/
/-- J walks xs in every world that S tells -/
structure Src {α : Type} [Py α] (K : Fg) (J : It) (S : Wd → Prop) (xs : List α) : Prop where
  go : ∀ i W', S W' → i < xs.length → J.go i W'.H
  yld : ∀ i W' v H'', S W' → i < xs.length → J.yld i W'.H v H'' → ∃ x W'', W''.H = H'' ∧ Grow W' W'' ∧ xs[i]? = some x ∧ rep K W''.B v x
  stop : ∀ i W', S W' → xs.length ≤ i → J.stop i W'.H
def EvI {α : Type} [Py α] (ε : Ef) (K : Fg) (wi : TI) (σ : SS) (W : Wd) (xs : List α) : Prop :=
  ∀ W1, Stp ε W W1 → ∀ R : It → Hp → Prop, (∀ J S W2, Stp ε W1 W2 → S W2 → (∀ W W', S W → Stp ε W W' → S W') → Src K J S xs → R J W2.H) → wi σ W1.H R
def EvJ {α : Type} [Py α] (ε : Ef) (K : Fg) (wi : TI) (σ : SS) (W : Wd) (xs : List α) : Prop :=
  ∀ W1, Stp ε W W1 → ∀ R : It → Hp → Prop, (∀ J W2, Stp ε W1 W2 → Src K J (On W2) xs → R J W2.H) → wi σ W1.H R
section
variable {α β γ : Type} [Py α] [Py β] [Py γ] {K : Fg} {σ : SS} {W W' : Wd} {v : V} {te ta tb : TE} {wi : TI} {ε : Ef}
theorem EvJ.i {xs : List α} (h : EvJ ε K wi σ W xs) : EvI ε K wi σ W xs := fun W1 g1 R k => h W1 g1 R fun J W2 g2 s => k J (On W2) W2 g2 (.refl _) (fun _ _ a b => a.trans b.on) s
theorem ei_list {xs : List α} (h : EvR ε K te σ W xs) : EvJ ε K (iList K te) σ W xs := fun W1 g1 R k => h W1 g1 _ fun v W2 g2 ⟨a, vs, e, s, r⟩ =>
  ⟨a, e, ⟨vs, SqL.of (W2.sub.el s)⟩, k (Itl K a) W2 g2 ⟨fun i W' o hi => by
      obtain ⟨x, hx⟩ : ∃ x, xs[i]? = some x := ⟨xs[i], by simp [hi]⟩
      obtain ⟨v, h1, _⟩ := Reps.get' r hx
      exact ⟨vs, v, SqL.of (W'.sub.el (o.b _ _ s)), h1⟩,
    fun i W' v H'' o hi ⟨e1, e2⟩ => by
      obtain ⟨x, h1, h2⟩ := Reps.get r (e2 vs (SqL.of (W'.sub.el (o.b _ _ s))))
      exact ⟨x, W', e1.symm, .refl _ _, h1, rex o.b h2⟩,
    fun i W' o hi => ⟨vs, SqL.of (W'.sub.el (o.b _ _ s)), by rw [Reps.len r]; exact hi⟩⟩⟩
theorem ei_tup {xs : Tup α} (h : EvR ε K te σ W xs) : EvJ ε K (iTup K te) σ W xs.items := fun W1 g1 R k => h W1 g1 _ fun v W2 g2 ⟨a, vs, e, s, r⟩ =>
  ⟨a, e, ⟨vs, SqT.of (W2.sub.et s)⟩, k (Itt K a) W2 g2 ⟨fun i W' o hi => by
      obtain ⟨x, hx⟩ : ∃ x, xs.items[i]? = some x := ⟨xs.items[i], by simp [hi]⟩
      obtain ⟨v, h1, _⟩ := Reps.get' r hx
      exact ⟨vs, v, SqT.of (W'.sub.et (o.b _ _ s)), h1⟩,
    fun i W' v H'' o hi ⟨e1, e2⟩ => by
      obtain ⟨x, h1, h2⟩ := Reps.get r (e2 vs (SqT.of (W'.sub.et (o.b _ _ s))))
      exact ⟨x, W', e1.symm, .refl _ _, h1, rex o.b h2⟩,
    fun i W' o hi => ⟨vs, SqT.of (W'.sub.et (o.b _ _ s)), by rw [Reps.len r]; exact hi⟩⟩⟩
/-- lo, lo + 1, .. -/
def rng (lo : Int) (n : Nat) : List Int := (List.range n).map fun i => lo + (i : Nat)
theorem rng_len (lo : Int) (n : Nat) : (rng lo n).length = n := by unfold rng; simp
theorem rng_get {lo : Int} {n i : Nat} (h : i < n) : (rng lo n)[i]? = some (lo + (i : Nat)) := by unfold rng; simp [h]
theorem rng_mem {lo k : Int} {n : Nat} : k ∈ rng lo n ↔ lo ≤ k ∧ k < lo + n := by
  unfold rng
  simp only [List.mem_map, List.mem_range]
  constructor
  · rintro ⟨i, h, rfl⟩; omega
  · rintro ⟨h1, h2⟩; exact ⟨(k - lo).toNat, by omega, by omega⟩
theorem src_range {lo : Int} {n : Nat} {S : Wd → Prop} : Src K (Itr lo n) S (rng lo n) :=
  ⟨fun i W' _ hi => by rw [rng_len] at hi; exact hi, fun i W' v H'' _ hi ⟨e1, e2⟩ => ⟨_, W', e1.symm, .refl _ _, rng_get (by rw [rng_len] at hi; exact hi), e2⟩,
    fun i W' _ hi => by rw [rng_len] at hi; exact hi⟩
theorem ei_rng1 {n : Int} (h : EvR ε K ta σ W n) (hn : n ≤ 1000000000) (hm : -1000000000 ≤ n) : EvJ ε K (iRng1 (tCons ta tNil)) σ W (rng 0 n.toNat) := fun W1 g1 R k => h W1 g1 _ fun v W2 g2 r =>
  ⟨n, by rw [show v = _ from r], by omega, by omega, k _ W2 g2 src_range⟩
theorem ei_rng2 {m n : Int} (ha : EvR ε K ta σ W m) (hb : EvR ε K tb σ W n) (h1 : m ≤ 1000000000 ∧ -1000000000 ≤ m ∧ n ≤ 1000000000 ∧ -1000000000 ≤ n) : EvJ ε K (iRng2 (tCons ta (tCons tb tNil))) σ W (rng m (n - m).toNat) := fun W1 g1 R k => ha W1 g1 _ fun v W2 g2 r =>
  hb W2 (g1.trans g2) _ fun u W3 g3 ru => ⟨m, n, by rw [show v = _ from r, show u = _ from ru], by omega, k _ W3 (g2.trans g3) src_range⟩
theorem ei_enum {xs : List α} (h : EvR ε K te σ W xs) : EvJ ε K (iEnum K (tCons te tNil)) σ W ((rng 0 xs.length).zip xs) := fun W1 g1 R k => h W1 g1 _ fun v W2 g2 ⟨a, vs, e, s, r⟩ =>
  ⟨a, vs, by rw [e], SqL.of (W2.sub.el s), k (Ite K a) W2 g2 ⟨fun i W' o hi => by
      have hi' : i < xs.length := by simp [rng_len] at hi; exact hi
      obtain ⟨x, hx⟩ : ∃ x, xs[i]? = some x := ⟨xs[i], by simp [hi']⟩
      obtain ⟨v, h1, _⟩ := Reps.get' r hx
      exact ⟨vs, v, SqL.of (W'.sub.el (o.b _ _ s)), h1⟩,
    fun i W' v H'' o hi ⟨T, x, e1, hT, e2, e3⟩ => by
      have hi' : i < xs.length := by simp [rng_len] at hi; exact hi
      obtain ⟨y, h1, h2⟩ := Reps.get r (e3 vs (SqL.of (W'.sub.el (o.b _ _ s))))
      refine ⟨((i : Int), y), W'.add T _, e2.symm, W'.grow_add hT, ?_, T, .int (i : Nat), x, e1, upd_same, rfl, rep_g (W'.grow_add hT) (rex o.b h2)⟩
      rw [List.getElem?_zip_eq_some]
      exact ⟨by rw [rng_get hi']; simp, h1⟩,
    fun i W' o hi => ⟨vs, SqL.of (W'.sub.el (o.b _ _ s)), by rw [Reps.len r]; simp [rng_len] at hi; exact hi⟩⟩⟩
theorem ei_zip {xs : List α} {ys : List β} (ha : EvR ε K ta σ W xs) (hb : EvR ε K tb σ W ys) : EvJ ε K (iZip K (tCons ta (tCons tb tNil))) σ W (xs.zip ys) := fun W1 g1 R k => ha W1 g1 _ fun v W2 g2 r1 => hb W2 (g1.trans g2) _ fun u W3 g3 r2 => by
  obtain ⟨a, vs, e, s, r⟩ := rep_s g3 r1
  obtain ⟨b, us, e', s', r'⟩ := r2
  refine ⟨a, b, vs, us, by rw [e, e'], SqL.of (W3.sub.el s), SqL.of (W3.sub.el s'), k (Itz K a b) W3 (g2.trans g3) ⟨fun i W' o hi => ?_, fun i W' v H'' o hi ⟨T, x, y, e1, hT, e2, e3, e4⟩ => ?_, fun i W' o hi => ?_⟩⟩
  · have hi' : i < xs.length ∧ i < ys.length := by simp at hi; omega
    obtain ⟨x, hx⟩ : ∃ x, xs[i]? = some x := ⟨xs[i], by simp [hi'.1]⟩
    obtain ⟨y, hy⟩ : ∃ x, ys[i]? = some x := ⟨ys[i], by simp [hi'.2]⟩
    obtain ⟨v, h1, _⟩ := Reps.get' r hx
    obtain ⟨u, h2, _⟩ := Reps.get' r' hy
    exact ⟨vs, us, v, u, SqL.of (W'.sub.el (o.b _ _ s)), SqL.of (W'.sub.el (o.b _ _ s')), h1, h2⟩
  · obtain ⟨p, h1, h2⟩ := Reps.get r (e3 vs (SqL.of (W'.sub.el (o.b _ _ s))))
    obtain ⟨q, h3, h4⟩ := Reps.get r' (e4 us (SqL.of (W'.sub.el (o.b _ _ s'))))
    refine ⟨(p, q), W'.add T _, e2.symm, W'.grow_add hT, ?_, T, x, y, e1, upd_same, rep_g (W'.grow_add hT) (rex o.b h2), rep_g (W'.grow_add hT) (rex o.b h4)⟩
    rw [List.getElem?_zip_eq_some]
    exact ⟨h1, h3⟩
  · refine ⟨vs, us, SqL.of (W'.sub.el (o.b _ _ s)), SqL.of (W'.sub.el (o.b _ _ s')), ?_⟩
    rw [Reps.len r, Reps.len r']
    simp at hi
    omega
end
end B
/-! B: comprehensions, locked dicts, statements, calls -/
namespace B
open PySem L2
open Evl (Ex)
/-! ### an iterated target -/
def GT {α : Type} [Py α] (K : Fg) (g : TG) (P : α → SS → SS → Wd → Prop) : Prop :=
  ∀ x v W σ (Q : SS → Hp → Prop), rep K W.B v x → (∀ σ2, P x σ σ2 W → Q σ2 W.H) → g v σ W.H Q
section
variable {α β γ : Type} [Py α] [Py β] [Py γ] {K : Fg} {σ : SS} {W W' : Wd} {v : V} {te ta tb : TE} {tt : TT} {wi : TI} {g : TG} {vs : List Nat} {ε : Ef}
def PN (K : Fg) (j : Nat) (x : α) (σ σ2 : SS) (W : Wd) : Prop := ∃ v, rep K W.B v x ∧ σ2 = σ.set j (some v)
def PP (K : Fg) (i j : Nat) (x : α × β) (σ σ2 : SS) (W : Wd) : Prop := ∃ v u, rep K W.B v x.1 ∧ rep K W.B u x.2 ∧ σ2 = (σ.set i (some v)).set j (some u)
theorem gt_name {j : Nat} : GT (α := α) K (gName j) (PN K j) := fun x v W σ Q r k => k _ ⟨v, r, rfl⟩
abbrev gPair (K : Fg) (i j : Nat) : TG := gTup K 2 (gCons (gName i) (gCons (gName j) gNil))
theorem gt_pair {i j : Nat} : GT (α := α × β) K (gPair K i j) (PP K i j) := fun x v W σ Q ⟨a, p, q, e, s, r1, r2⟩ k =>
  ⟨a, [p, q], e, SqT.of (W.sub.et s), rfl, p, [q], rfl, q, [], rfl, rfl, k _ ⟨p, q, r1, r2, rfl⟩⟩
/-! ### list comprehensions -/
theorem en_lc {xs : List α} {p : α → Bool} {f : α → β} {P : α → SS → SS → Wd → Prop} (hi : EvI ε K wi σ W xs) (hg : GT K g P)
    (hw : ∀ x σ2 W', P x (wipe σ vs) σ2 W' → wipe σ2 vs = wipe σ vs)
    (ht : ∀ x W' σ2, x ∈ xs → Stp ε W W' → P x (wipe σ vs) σ2 W' → EvT ε tt σ2 W' (p x))
    (he : ∀ x W' σ2, x ∈ xs → p x = true → Stp ε W W' → P x (wipe σ vs) σ2 W' → EvR ε K te σ2 W' (f x))
    (hP : ∀ x σ2 W' W'', P x (wipe σ vs) σ2 W' → Stp ε W' W'' → P x (wipe σ vs) σ2 W'')
    (hl : xs.length ≤ 100000) : EvN ε K (tLc wi g tt te vs) σ W ((xs.filter p).map f) := fun W1 g1 Q k =>
  hi W1 g1 _ fun J S W2 g2 s2 sg src D hD => by
    have DS : D ∉ ε.S := fun z => ε.dom W2 D g2.i z hD
    refine ⟨fun i m H => m = xs.length - i ∧ i ≤ xs.length ∧ ∃ Wi acc, Wi.H = H ∧ Stp ε W2 Wi ∧ Wi.B D = none ∧ Wi.H D = some (.lst acc) ∧ Reps K Wi.B acc (((xs.take i).filter p).map f), ⟨xs.length, rfl, Nat.zero_le _, W2.put D (.lst []) (W2.free hD), [], rfl, ⟨md_mut (.refl _ _) (W2.free hD) hD, i_put DS g2.i _⟩, W2.free hD, upd_same, by simpa using Paired.nil⟩, ?_⟩
    rintro i m H ⟨rfl, hle, Wi, acc, rfl, gi, bD, hDi, rs⟩
    have si : S Wi := sg _ _ s2 gi
    have hacc : acc.length ≤ i := by
      rw [Reps.len rs, List.length_map]
      exact Nat.le_trans (List.length_filter_le _ _) (by rw [List.length_take]; omega)
    by_cases hlt : i < xs.length
    · refine .inr ⟨src.go i Wi si hlt, fun H => i + 1 ≤ xs.length ∧ ∃ Wi acc, Wi.H = H ∧ Stp ε W2 Wi ∧ Wi.B D = none ∧ Wi.H D = some (.lst acc) ∧ Reps K Wi.B acc (((xs.take (i + 1)).filter p).map f), fun H' h' => ⟨_, by omega, rfl, h'⟩, fun v H'' hy => ?_⟩
      obtain ⟨x, W3, rfl, g3', hx, r⟩ := src.yld i Wi v H'' si hlt hy
      have g3 : Stp ε Wi W3 := gi.rf.and g3'
      have hm : x ∈ xs := List.mem_of_getElem? hx
      have tk : xs.take (i + 1) = xs.take i ++ [x] := by rw [List.take_add_one, hx]; rfl
      have m3 := g3.md.mut DS hDi bD
      refine hg x v W3 _ _ r fun σ2 hp => ⟨hw x σ2 W3 hp, ?_⟩
      refine ht x W3 σ2 hm (((g1.trans g2).trans gi).trans g3) hp W3 g3.rf _ fun W4 g4 => ?_
      have m4 := g4.md.mut DS m3.1 m3.2
      cases hpx : p x with
      | true =>
        rw [if_pos rfl]
        refine he x W4 σ2 hm hpx ((((g1.trans g2).trans gi).trans g3).trans g4) (hP x σ2 W3 W4 hp g4) W4 g4.rf _ fun u W5 g5 r5 => ?_
        have m5 := g5.md.mut DS m4.1 m4.2
        refine ⟨acc, m5.1, Evl.sz_lt (by omega), hlt, W5.put D _ m5.2, acc ++ [u], rfl, ⟨md_mut (((gi.trans g3).trans g4).trans g5).md m5.2 hD, i_put DS g5.i _⟩, m5.2, upd_same, ?_⟩
        rw [tk, List.filter_append, List.map_append]
        simp only [List.filter_cons, hpx, if_pos, List.filter_nil, List.map_cons, List.map_nil]
        exact Reps.snoc (Reps.mono (exExt ((g3.trans g4).trans g5).md.b) rs) r5
      | false =>
        rw [if_neg Bool.false_ne_true]
        refine ⟨hlt, W4, acc, rfl, (gi.trans g3).trans g4, m4.2, m4.1, ?_⟩
        rw [tk, List.filter_append, List.map_append]
        simp only [List.filter_cons, hpx, List.filter_nil, List.map_nil, List.append_nil, if_neg Bool.false_ne_true]
        exact Reps.mono (exExt (g3.trans g4).md.b) rs
    · have e : i = xs.length := by omega
      subst e
      rw [List.take_length] at rs
      exact .inl ⟨src.stop _ Wi si (Nat.le_refl _), k D acc Wi (g2.trans gi) (by
        cases e : W1.H D with
        | none => rfl
        | some o => exact absurd hD (g2.md.d D (by rw [e]; exact fun z => by cases z))) bD hDi rs⟩
theorem et_yes : EvT ε tYes σ W true := fun W1 g1 Q k => k W1 g1.rf
theorem wipe1 {j : Nat} {v : V} : wipe ((wipe σ [j]).set j (some v)) [j] = wipe σ [j] := by simp [wipe, List.set_set]
theorem set_none_comm {σ : SS} {i j : Nat} {a : Option V} (h : i ≠ j) : (σ.set i a).set j none = (σ.set j none).set i a := List.set_comm _ _ h
theorem wipe2 {i j : Nat} {v u : V} : wipe (((wipe σ [i, j]).set i (some v)).set j (some u)) [i, j] = wipe σ [i, j] := by
  simp only [wipe]
  by_cases h : i = j
  · subst h; simp [List.set_set]
  · rw [List.set_set, set_none_comm (σ := ((σ.set j none).set i none)) h, List.set_set, List.set_comm (l := σ) _ _ (Ne.symm h), List.set_set]
    rw [List.set_comm (l := σ) _ _ h, List.set_set]
theorem filter_yes (xs : List α) : xs.filter (fun _ => true) = xs := List.filter_eq_self.mpr fun _ _ => rfl
/-- [e for x in ..], [e for x in .. if t] -/
theorem en_lcN {j : Nat} {xs : List α} {f : α → β} (hi : EvI ε K wi σ W xs) (he : ∀ x v W', x ∈ xs → Stp ε W W' → rep K W'.B v x → EvR ε K te ((wipe σ [j]).set j (some v)) W' (f x)) (hl : xs.length ≤ 100000) :
    EvN ε K (tLc wi (gName j) tYes te [j]) σ W (xs.map f) := by
  have := en_lc (ε := ε) (K := K) (wi := wi) (g := gName j) (tt := tYes) (te := te) (vs := [j]) (p := fun _ => true) (f := f) hi gt_name (fun x σ2 W' ⟨v, _, e⟩ => by rw [e]; exact wipe1) (fun _ _ _ _ _ _ => et_yes)
    (fun x W' σ2 hm _ g ⟨v, r, e⟩ => by rw [e]; exact he x v W' hm g r) (fun x σ2 W' W'' ⟨v, r, e⟩ g => ⟨v, rep_s g r, e⟩) hl
  rw [filter_yes] at this
  exact this
theorem ev_lcN {j : Nat} {xs : List α} {f : α → β} (hi : EvI ε K wi σ W xs) (he : ∀ x v W', x ∈ xs → Stp ε W W' → rep K W'.B v x → EvR ε K te ((wipe σ [j]).set j (some v)) W' (f x)) (hl : xs.length ≤ 100000) :
    EvR ε K (tLc wi (gName j) tYes te [j]) σ W (xs.map f) := (en_lcN hi he hl).toR
theorem en_lcNt {j : Nat} {xs : List α} {p : α → Bool} {f : α → β} (hi : EvI ε K wi σ W xs) (ht : ∀ x v W', x ∈ xs → Stp ε W W' → rep K W'.B v x → EvT ε tt ((wipe σ [j]).set j (some v)) W' (p x))
    (he : ∀ x v W', x ∈ xs → p x = true → Stp ε W W' → rep K W'.B v x → EvR ε K te ((wipe σ [j]).set j (some v)) W' (f x)) (hl : xs.length ≤ 100000) :
    EvN ε K (tLc wi (gName j) tt te [j]) σ W ((xs.filter p).map f) :=
  en_lc hi gt_name (fun x σ2 W' ⟨v, _, e⟩ => by rw [e]; exact wipe1) (fun x W' σ2 hm g ⟨v, r, e⟩ => by rw [e]; exact ht x v W' hm g r)
    (fun x W' σ2 hm hp g ⟨v, r, e⟩ => by rw [e]; exact he x v W' hm hp g r) (fun x σ2 W' W'' ⟨v, r, e⟩ g => ⟨v, rep_s g r, e⟩) hl
theorem ev_lcNt {j : Nat} {xs : List α} {p : α → Bool} {f : α → β} (hi : EvI ε K wi σ W xs) (ht : ∀ x v W', x ∈ xs → Stp ε W W' → rep K W'.B v x → EvT ε tt ((wipe σ [j]).set j (some v)) W' (p x))
    (he : ∀ x v W', x ∈ xs → p x = true → Stp ε W W' → rep K W'.B v x → EvR ε K te ((wipe σ [j]).set j (some v)) W' (f x)) (hl : xs.length ≤ 100000) :
    EvR ε K (tLc wi (gName j) tt te [j]) σ W ((xs.filter p).map f) := (en_lcNt hi ht he hl).toR
theorem en_lcP {i j : Nat} {xs : List (α × β)} {f : α × β → γ} (hi : EvI ε K wi σ W xs) (he : ∀ x v u W', x ∈ xs → Stp ε W W' → rep K W'.B v x.1 → rep K W'.B u x.2 → EvR ε K te (((wipe σ [i, j]).set i (some v)).set j (some u)) W' (f x)) (hl : xs.length ≤ 100000) :
    EvN ε K (tLc wi (gPair K i j) tYes te [i, j]) σ W (xs.map f) := by
  have := en_lc (ε := ε) (K := K) (wi := wi) (g := gPair K i j) (tt := tYes) (te := te) (vs := [i, j]) (p := fun _ => true) (f := f) hi gt_pair (fun x σ2 W' ⟨v, u, _, _, e⟩ => by rw [e]; exact wipe2) (fun _ _ _ _ _ _ => et_yes)
    (fun x W' σ2 hm _ g ⟨v, u, r, r', e⟩ => by rw [e]; exact he x v u W' hm g r r') (fun x σ2 W' W'' ⟨v, u, r, r', e⟩ g => ⟨v, u, rep_s g r, rep_s g r', e⟩) hl
  rw [filter_yes] at this
  exact this
theorem ev_lcP {i j : Nat} {xs : List (α × β)} {f : α × β → γ} (hi : EvI ε K wi σ W xs) (he : ∀ x v u W', x ∈ xs → Stp ε W W' → rep K W'.B v x.1 → rep K W'.B u x.2 → EvR ε K te (((wipe σ [i, j]).set i (some v)).set j (some u)) W' (f x)) (hl : xs.length ≤ 100000) :
    EvR ε K (tLc wi (gPair K i j) tYes te [i, j]) σ W (xs.map f) := (en_lcP hi he hl).toR
theorem en_lcPt {i j : Nat} {xs : List (α × β)} {p : α × β → Bool} {f : α × β → γ} (hi : EvI ε K wi σ W xs) (ht : ∀ x v u W', x ∈ xs → Stp ε W W' → rep K W'.B v x.1 → rep K W'.B u x.2 → EvT ε tt (((wipe σ [i, j]).set i (some v)).set j (some u)) W' (p x))
    (he : ∀ x v u W', x ∈ xs → p x = true → Stp ε W W' → rep K W'.B v x.1 → rep K W'.B u x.2 → EvR ε K te (((wipe σ [i, j]).set i (some v)).set j (some u)) W' (f x)) (hl : xs.length ≤ 100000) :
    EvN ε K (tLc wi (gPair K i j) tt te [i, j]) σ W ((xs.filter p).map f) :=
  en_lc hi gt_pair (fun x σ2 W' ⟨v, u, _, _, e⟩ => by rw [e]; exact wipe2) (fun x W' σ2 hm g ⟨v, u, r, r', e⟩ => by rw [e]; exact ht x v u W' hm g r r')
    (fun x W' σ2 hm hp g ⟨v, u, r, r', e⟩ => by rw [e]; exact he x v u W' hm hp g r r') (fun x σ2 W' W'' ⟨v, u, r, r', e⟩ g => ⟨v, u, rep_s g r, rep_s g r', e⟩) hl
theorem ev_lcPt {i j : Nat} {xs : List (α × β)} {p : α × β → Bool} {f : α × β → γ} (hi : EvI ε K wi σ W xs) (ht : ∀ x v u W', x ∈ xs → Stp ε W W' → rep K W'.B v x.1 → rep K W'.B u x.2 → EvT ε tt (((wipe σ [i, j]).set i (some v)).set j (some u)) W' (p x))
    (he : ∀ x v u W', x ∈ xs → p x = true → Stp ε W W' → rep K W'.B v x.1 → rep K W'.B u x.2 → EvR ε K te (((wipe σ [i, j]).set i (some v)).set j (some u)) W' (f x)) (hl : xs.length ≤ 100000) :
    EvR ε K (tLc wi (gPair K i j) tt te [i, j]) σ W ((xs.filter p).map f) := (en_lcPt hi ht he hl).toR
end

/-! ### a dict, locked -/
structure Lk (W WL : Wd) (d : Addr) (ks : List (Key × V)) : Prop where
  b : Ex W.B WL.B
  lk : ∃ od, WL.H d = some (.frz od (.dK ks))
  h : ∀ a o, a ≠ d → W.H a = some o → WL.H a = some o
section
variable {α β : Type} [Py α] [Py β] {K : Fg} {σ : SS} {W W' : Wd} {v : V} {te : TE} {t : TE} {ε : Ef}
theorem rep_lk {WL : Wd} {d : Addr} {ks : List (Key × V)} {x : α} (l : Lk W WL d ks) (h : rep K W.B v x) : rep K WL.B v x := rex l.b h
theorem ev_lock {d : Addr} {ks : List (Key × V)} {x : α} (hd : W.H d = some (.dK ks)) (h : ∀ WL, Lk W WL d ks → EvR pur K t σ WL x) : EvR pur K (tLockE t) σ W x := fun W1 g1' Q k => by
  have g1 := g1'.pure
  have hd1 := g1.h _ _ hd
  refine ⟨d, _, hd1, trivial, fun od => ?_⟩
  have sub : Ext W1.B (upd W1.H d (.frz od (.dK ks))) := fun a o e => by
    by_cases q : a = d
    · subst q
      rcases W1.sub a o e with h1 | ⟨⟨k', rfl⟩, ob, h1⟩
      · rw [hd1] at h1; cases h1
        exact .inr ⟨⟨ks, rfl⟩, od, upd_same⟩
      · rw [hd1] at h1; cases h1
    · rw [upd_ne q]; exact W1.sub a o e
  let WL : Wd := ⟨W1.B, upd W1.H d (.frz od (.dK ks)), sub⟩
  have lk : Lk W WL d ks := ⟨g1.b, ⟨od, upd_same⟩, fun a o q e => by
    show upd W1.H d _ a = some o
    rw [upd_ne q]; exact g1.h a o e⟩
  refine h WL lk WL (.start trivial) _ fun v W2 g2' r => ?_
  have g2 := g2'.pure
  have h2 : W2.H d = some (.frz od (.dK ks)) := g2.h _ _ upd_same
  refine ⟨h2, ?_⟩
  have hB : W2.B d = W1.B d := g2.m d (by show upd W1.H d _ d ≠ none; rw [upd_same]; exact fun z => by cases z)
  have sub3 : Ext W2.B (upd W2.H d (.dK ks)) := fun a o e => by
    by_cases q : a = d
    · subst q
      rw [hB] at e
      rcases W1.sub a o e with h1 | ⟨⟨k', rfl⟩, ob, h1⟩
      · rw [hd1] at h1; cases h1; exact .inl upd_same
      · rw [hd1] at h1; cases h1
    · rw [upd_ne q]; exact W2.sub a o e
  refine k v ⟨W2.B, upd W2.H d (.dK ks), sub3⟩ (.of (.mk g2.b (fun a o e => ?_) (fun a ha => ?_))) r
  · show upd W2.H d (.dK ks) a = some o
    by_cases q : a = d
    · subst q; rw [hd1] at e; cases e; exact upd_same
    · rw [upd_ne q]
      exact g2.h a o (by show upd W1.H d _ a = some o; rw [upd_ne q]; exact e)
  · refine g2.m a ?_
    show upd W1.H d _ a ≠ none
    by_cases q : a = d
    · subst q; rw [upd_same]; exact fun z => by cases z
    · rw [upd_ne q]; exact ha
section
variable {κ : Type} [PyKV κ] {d : Addr} {ks : List (Key × V)} {kv : List (κ × α)}
theorem ei_items {WL : Wd} (hv : EvR pur K te σ WL (Raw.mk (.ref d))) (lk : ∃ od, WL.H d = some (.frz od (.dK ks))) (r : KReps K WL.B ks kv) : EvI pur K (iItems te) σ WL kv := fun W1 g1 R k => hv W1 g1 _ fun v W2 g2 e => by
  obtain ⟨od, hod⟩ := lk
  have h2 := (g1.trans g2).pure.h _ _ hod
  refine ⟨d, od, ks, e, h2, k (Iti d od ks) (fun W' => W'.H d = some (.frz od (.dK ks)) ∧ Ex WL.B W'.B) W2 g2 ⟨h2, (g1.trans g2).md.b⟩ (fun W W' ⟨a, b⟩ g => ⟨g.pure.h _ _ a, b.trans g.md.b⟩) ⟨fun i W' s hi => ⟨s.1, by rw [KReps.len r]; exact hi⟩, fun i W' v H'' s hi ⟨T, k', v', h1, e1, hT, e2⟩ => ?_, fun i W' s hi => ⟨s.1, by rw [KReps.len r]; exact hi⟩⟩⟩
  obtain ⟨q, hq, hk, hr⟩ := KReps.get r h1
  refine ⟨q, W'.add T _, e2.symm, W'.grow_add hT, hq, T, _, _, e1, upd_same, ?_, rep_g (W'.grow_add hT) (rex s.2 hr)⟩
  rw [hk]
  exact PyKV.krep _ _ _
theorem ei_keys {WL : Wd} (hv : EvR pur K te σ WL (Raw.mk (.ref d))) (lk : ∃ od, WL.H d = some (.frz od (.dK ks))) (r : KReps K WL.B ks kv) : EvI pur K (iKeys te) σ WL (kv.map (·.1)) := fun W1 g1 R k => hv W1 g1 _ fun v W2 g2 e => by
  obtain ⟨od, hod⟩ := lk
  have h2 := (g1.trans g2).pure.h _ _ hod
  refine ⟨d, od, e, .inl ⟨ks, h2, k (Itk d od ks) (fun W' => W'.H d = some (.frz od (.dK ks)) ∧ Ex WL.B W'.B) W2 g2 ⟨h2, (g1.trans g2).md.b⟩ (fun W W' ⟨a, b⟩ g => ⟨g.pure.h _ _ a, b.trans g.md.b⟩) ⟨fun i W' s hi => ⟨s.1, by rw [KReps.len r]; simpa using hi⟩, fun i W' v H'' s hi ⟨e2, k', v', h1, e1⟩ => ?_, fun i W' s hi => ⟨s.1, by rw [KReps.len r]; simpa using hi⟩⟩⟩⟩
  obtain ⟨q, hq, hk, hr⟩ := KReps.get r h1
  exact ⟨q.1, W', e2.symm, .refl _ _, by simp [hq], by rw [e1, hk]; exact PyKV.krep _ _ _⟩
theorem ei_vals {WL : Wd} (hv : EvR pur K te σ WL (Raw.mk (.ref d))) (lk : ∃ od, WL.H d = some (.frz od (.dK ks))) (r : KReps K WL.B ks kv) : EvI pur K (iVals te) σ WL (kv.map (·.2)) := fun W1 g1 R k => hv W1 g1 _ fun v W2 g2 e => by
  obtain ⟨od, hod⟩ := lk
  have h2 := (g1.trans g2).pure.h _ _ hod
  refine ⟨d, od, ks, e, h2, k (Itd d od ks) (fun W' => W'.H d = some (.frz od (.dK ks)) ∧ Ex WL.B W'.B) W2 g2 ⟨h2, (g1.trans g2).md.b⟩ (fun W W' ⟨a, b⟩ g => ⟨g.pure.h _ _ a, b.trans g.md.b⟩) ⟨fun i W' s hi => ⟨s.1, by rw [KReps.len r]; simpa using hi⟩, fun i W' v H'' s hi ⟨e2, k', h1⟩ => ?_, fun i W' s hi => ⟨s.1, by rw [KReps.len r]; simpa using hi⟩⟩⟩
  obtain ⟨q, hq, hk, hr⟩ := KReps.get r h1
  exact ⟨q.2, W', e2.symm, .refl _ _, by simp [hq], rex s.2 hr⟩
end
end

/-! ### statements -/
section
variable {α β γ : Type} [Py α] [Py β] [Py γ] {K : Fg} {σ : SS} {W : Wd} {D : Ends} {te ta tb : TE} {t : TT} {tu tw tz : TS} {x : α} {y : β} {ε : Ef}
theorem s_asgP {P : V → Wd → Prop} {i : Nat} (h : EvP ε te σ W P) (s : ε.I W) (k : ∀ v W', Stp ε W W' → P v W' → D.nx (σ.set i (some v)) W'.H) : tAsg te (gName i) D σ W.H := h W (.start s) _ k
theorem q_asgP {P : V → Wd → Prop} {i : Nat} (h : EvP ε te σ W P) (s : ε.I W) (k : ∀ v W', Stp ε W W' → P v W' → tz D (σ.set i (some v)) W'.H) : tSeq (tAsg te (gName i)) tz D σ W.H := h W (.start s) _ k
theorem q_asg {i : Nat} (h : EvR ε K te σ W x) (s : ε.I W) (k : ∀ v W', Stp ε W W' → rep K W'.B v x → tz D (σ.set i (some v)) W'.H) : tSeq (tAsg te (gName i)) tz D σ W.H := h W (.start s) _ k
theorem s_asg {i : Nat} (h : EvR ε K te σ W x) (s : ε.I W) (k : ∀ v W', Stp ε W W' → rep K W'.B v x → D.nx (σ.set i (some v)) W'.H) : tAsg te (gName i) D σ W.H := h W (.start s) _ k
theorem q_asgN {xs : List α} {i : Nat} (h : EvN ε K te σ W xs) (s : ε.I W) (k : ∀ p vs W', Stp ε W W' → W.H p = none → W'.B p = none → W'.H p = some (.lst vs) → Reps K W'.B vs xs → tz D (σ.set i (some (.ref p))) W'.H) : tSeq (tAsg te (gName i)) tz D σ W.H := h W (.start s) _ k
theorem s_asgN {xs : List α} {i : Nat} (h : EvN ε K te σ W xs) (s : ε.I W) (k : ∀ p vs W', Stp ε W W' → W.H p = none → W'.B p = none → W'.H p = some (.lst vs) → Reps K W'.B vs xs → D.nx (σ.set i (some (.ref p))) W'.H) : tAsg te (gName i) D σ W.H := h W (.start s) _ k
theorem s_retN {xs : List α} (h : EvN ε K te σ W xs) (s : ε.I W) (k : ∀ p vs W', Stp ε W W' → W.H p = none → W'.B p = none → W'.H p = some (.lst vs) → Reps K W'.B vs xs → D.rt (.ref p) W'.H) : tRet te D σ W.H := h W (.start s) _ k
theorem s_ret (h : EvR ε K te σ W x) (s : ε.I W) (k : ∀ v W', Stp ε W W' → rep K W'.B v x → D.rt v W'.H) : tRet te D σ W.H := h W (.start s) _ k
theorem s_retP {P : V → Wd → Prop} (h : EvP ε te σ W P) (s : ε.I W) (k : ∀ v W', Stp ε W W' → P v W' → D.rt v W'.H) : tRet te D σ W.H := h W (.start s) _ k
theorem s_if {b : Bool} (h : EvT ε t σ W b) (s : ε.I W) (h1 : b = true → ∀ W', Stp ε W W' → tu D σ W'.H) (h2 : b = false → ∀ W', Stp ε W W' → tw D σ W'.H) : tIfS t tu tw D σ W.H := h W (.start s) _ fun W' g => by
  cases b with
  | true => rw [if_pos rfl]; exact h1 rfl W' g
  | false => rw [if_neg Bool.false_ne_true]; exact h2 rfl W' g
theorem q_if {b : Bool} (h : EvT ε t σ W b) (s : ε.I W) (h1 : b = true → ∀ W', Stp ε W W' → tu { D with nx := tz D } σ W'.H) (h2 : b = false → ∀ W', Stp ε W W' → tw { D with nx := tz D } σ W'.H) : tSeq (tIfS t tu tw) tz D σ W.H := s_if (D := { D with nx := tz D }) h s h1 h2
/-- an if without else -/
theorem q_when {b : Bool} (h : EvT ε t σ W b) (s : ε.I W) (h1 : b = true → ∀ W', Stp ε W W' → tu { D with nx := tz D } σ W'.H) (h2 : b = false → ∀ W', Stp ε W W' → tz D σ W'.H) : tSeq (tIfS t tu tNext) tz D σ W.H := s_if (D := { D with nx := tz D }) h s h1 h2
theorem s_when {b : Bool} (h : EvT ε t σ W b) (s : ε.I W) (h1 : b = true → ∀ W', Stp ε W W' → tu D σ W'.H) (h2 : b = false → ∀ W', Stp ε W W' → D.nx σ W'.H) : tIfS t tu tNext D σ W.H := s_if h s h1 h2
theorem q_drop {P : V → Wd → Prop} (h : EvP ε te σ W P) (s : ε.I W) (k : ∀ v W', Stp ε W W' → P v W' → tz D σ W'.H) : tSeq (tDrop te) tz D σ W.H := h W (.start s) _ k
theorem q_augI {i : Nat} {f : Int → Int → Int} {a b : Int} (hx : σ[i]? = some (some (.int a))) (h : EvR ε K te σ W b) (s : ε.I W) (k : ∀ W', Stp ε W W' → tz D (σ.set i (some (.int (f a b)))) W'.H) : tSeq (tAug i te (ipI f)) tz D σ W.H :=
  ⟨_, hx, h W (.start s) _ fun u W' g ru => ⟨a, b, rfl, ru, k W' g⟩⟩
theorem s_augI {i : Nat} {f : Int → Int → Int} {a b : Int} (hx : σ[i]? = some (some (.int a))) (h : EvR ε K te σ W b) (s : ε.I W) (k : ∀ W', Stp ε W W' → D.nx (σ.set i (some (.int (f a b)))) W'.H) : tAug i te (ipI f) D σ W.H :=
  ⟨_, hx, h W (.start s) _ fun u W' g ru => ⟨a, b, rfl, ru, k W' g⟩⟩
/-- a, b = x, y -/
theorem q_par {i j : Nat} {P R : V → Wd → Prop} (ha : EvP ε ta σ W P) (hb : EvP ε tb σ W R) (s : ε.I W) (mono : ∀ v W W', Stp ε W W' → P v W → P v W')
    (k : ∀ v u W', Stp ε W W' → P v W' → R u W' → tz D ((σ.set i (some v)).set j (some u)) W'.H) : tSeq (tPar i j (tCons ta (tCons tb tNil))) tz D σ W.H :=
  ha W (.start s) _ fun v W1 g1 p => hb W1 g1 _ fun u W2 g2 r => ⟨v, u, rfl, k v u W2 (g1.trans g2) (mono v W1 W2 g2 p) r⟩
/-- the turns of a for over what J walks: Pv by the turn, the slots, the world -/
theorem for_src {g : TG} {xs : List α} {J : It} {W2 : Wd} (src : Src K J (On W2) xs) (Pv : Nat → SS → Wd → Prop) (h0 : Pv 0 σ W2) (hon : ∀ i σ' W', Pv i σ' W' → On W2 W')
    (hs : ∀ i x v σ' W' W'', i < xs.length → xs[i]? = some x → Pv i σ' W' → Grow W' W'' → rep K W''.B v x → g v σ' W''.H fun σ2 H2 => tu { D with nx := fun σ H => ∃ W, W.H = H ∧ Pv (i + 1) σ W, ct := fun σ H => ∃ W, W.H = H ∧ Pv (i + 1) σ W, bk := D.nx } σ2 H2)
    (hd : ∀ σ' W', Pv xs.length σ' W' → D.nx σ' W'.H) :
    ∃ W : Nat → Nat → SS → Hp → Prop, (∃ m, W 0 m σ W2.H) ∧ ∀ i m σ H, W i m σ H →
      (J.stop i H ∧ D.nx σ H) ∨ (J.go i H ∧ ∃ N : SS → Hp → Prop, (∀ σ' H', N σ' H' → ∃ m', m' < m ∧ W (i + 1) m' σ' H') ∧ ∀ x H', J.yld i H x H' → g x σ H' fun σ2 H2 => tu { D with nx := N, ct := N, bk := D.nx } σ2 H2) := by
  refine ⟨fun i m σ H => m = xs.length - i ∧ i ≤ xs.length ∧ ∃ W, W.H = H ∧ Pv i σ W, ⟨xs.length, rfl, Nat.zero_le _, W2, rfl, h0⟩, ?_⟩
  rintro i m σ' H ⟨rfl, hle, W', rfl, p⟩
  by_cases hlt : i < xs.length
  · refine .inr ⟨src.go i W' (hon i σ' W' p) hlt, fun σ H => ∃ W, W.H = H ∧ Pv (i + 1) σ W, fun σ'' H'' q => ⟨_, by omega, rfl, hlt, q⟩, fun v H'' hy => ?_⟩
    obtain ⟨x, W'', rfl, gg, hx, r⟩ := src.yld i W' v H'' (hon i σ' W' p) hlt hy
    exact hs i x v σ' W' W'' hlt hx p gg r
  · have e : i = xs.length := by omega
    subst e
    exact .inl ⟨src.stop _ W' (hon _ _ _ p) (Nat.le_refl _), hd σ' W' p⟩
/-- for target in .. -/
theorem s_for {wi : TI} {g : TG} {xs : List α} (hi : EvJ ε K wi σ W xs) (s : ε.I W)
    (k : ∀ W2, Stp ε W W2 → ∃ Pv : Nat → SS → Wd → Prop, Pv 0 σ W2 ∧ (∀ i σ' W', Pv i σ' W' → On W2 W') ∧
      (∀ i x v σ' W' W'', i < xs.length → xs[i]? = some x → Pv i σ' W' → Grow W' W'' → rep K W''.B v x → g v σ' W''.H fun σ2 H2 => tu { D with nx := fun σ H => ∃ W, W.H = H ∧ Pv (i + 1) σ W, ct := fun σ H => ∃ W, W.H = H ∧ Pv (i + 1) σ W, bk := D.nx } σ2 H2) ∧
      (∀ σ' W', Pv xs.length σ' W' → D.nx σ' W'.H)) : tFor wi g tu D σ W.H := hi W (.start s) _ fun J W2 g2 src => by
  obtain ⟨Pv, h0, hon, hs, hd⟩ := k W2 g2
  exact for_src src Pv h0 hon hs hd
theorem q_for {wi : TI} {g : TG} {xs : List α} (hi : EvJ ε K wi σ W xs) (s : ε.I W)
    (k : ∀ W2, Stp ε W W2 → ∃ Pv : Nat → SS → Wd → Prop, Pv 0 σ W2 ∧ (∀ i σ' W', Pv i σ' W' → On W2 W') ∧
      (∀ i x v σ' W' W'', i < xs.length → xs[i]? = some x → Pv i σ' W' → Grow W' W'' → rep K W''.B v x → g v σ' W''.H fun σ2 H2 => tu { D with nx := fun σ H => ∃ W, W.H = H ∧ Pv (i + 1) σ W, ct := fun σ H => ∃ W, W.H = H ∧ Pv (i + 1) σ W, bk := tz D } σ2 H2) ∧
      (∀ σ' W', Pv xs.length σ' W' → tz D σ' W'.H)) : tSeq (tFor wi g tu) tz D σ W.H := s_for (D := { D with nx := tz D }) hi s k
/-- for k in range(a drawn number) -/
theorem for_rng {j : Nat} {n : Int} {W2 : Wd} (Pv : Nat → SS → Wd → Prop) (h0 : Pv 0 σ W2) (hon : ∀ i σ' W', Pv i σ' W' → On W2 W')
    (hs : ∀ (i : Nat) σ' W', (i : Int) < n → Pv i σ' W' → tu { D with nx := fun σ H => ∃ W, W.H = H ∧ Pv (i + 1) σ W, ct := fun σ H => ∃ W, W.H = H ∧ Pv (i + 1) σ W, bk := D.nx } (σ'.set j (some (.int (i : Int)))) W'.H)
    (hd : ∀ σ' W', Pv n.toNat σ' W' → D.nx σ' W'.H) :
    ∃ W : Nat → Nat → SS → Hp → Prop, (∃ m, W 0 m σ W2.H) ∧ ∀ i m σ H, W i m σ H →
      ((Itr 0 n.toNat).stop i H ∧ D.nx σ H) ∨ ((Itr 0 n.toNat).go i H ∧ ∃ N : SS → Hp → Prop, (∀ σ' H', N σ' H' → ∃ m', m' < m ∧ W (i + 1) m' σ' H') ∧ ∀ x H', (Itr 0 n.toNat).yld i H x H' → gName j x σ H' fun σ2 H2 => tu { D with nx := N, ct := N, bk := D.nx } σ2 H2) :=
  L2.for_range (fun i σ H => ∃ W, W.H = H ∧ Pv i σ W) ⟨W2, rfl, h0⟩ (fun i σ H hi ⟨W', e, p⟩ => by
    subst e
    have := hs i σ W' (by omega) p
    show tu _ (σ.set j (some (.int (0 + (i : Nat))))) W'.H
    rw [Int.zero_add]; exact this) (fun σ H ⟨W', e, p⟩ => by subst e; exact hd σ W' p)
/-- while -/
theorem s_while (Wm : Nat → SS → Wd → Prop) (m0 : Nat) (h0 : Wm m0 σ W)
    (hs : ∀ m σ' W', Wm m σ' W' → ε.I W' ∧ ∃ b, EvT ε t σ' W' b ∧ (b = true → ∀ W'', Stp ε W' W'' → tu { D with nx := fun σ H => ∃ m' W, m' < m ∧ W.H = H ∧ Wm m' σ W, ct := fun σ H => ∃ m' W, m' < m ∧ W.H = H ∧ Wm m' σ W, bk := D.nx } σ' W''.H) ∧ (b = false → ∀ W'', Stp ε W' W'' → D.nx σ' W''.H)) : tWhile t tu D σ W.H := by
  refine ⟨fun m σ H => ∃ W, W.H = H ∧ Wm m σ W, ⟨m0, W, rfl, h0⟩, ?_⟩
  rintro m σ' H ⟨W', rfl, w⟩
  obtain ⟨hI, b, ht, h1, h2⟩ := hs m σ' W' w
  refine ht W' (.start hI) _ fun W'' g => ?_
  cases b with
  | true =>
    rw [if_pos rfl]
    exact ⟨fun σ H => ∃ m' W, m' < m ∧ W.H = H ∧ Wm m' σ W, fun σ2 H2 ⟨m', W, hm, e, q⟩ => ⟨m', hm, W, e, q⟩, h1 rfl W'' g⟩
  | false =>
    rw [if_neg Bool.false_ne_true]
    exact h2 rfl W'' g

/-! ### calls of defs -/
theorem ev_callP1 {P R : V → Wd → Prop} {sp : Sp} {E : XK} (ha : EvP ε ta σ W P) (hs : ∀ v W1, Stp ε W W1 → P v W1 → ∀ Q : VK, (∀ u W2, Stp ε W1 W2 → R u W2 → Q u W2.H) → sp [v] W1.H Q E) : EvP ε (tCall sp [] E (tCons ta tNil)) σ W R := fun W1 g1 Q k =>
  ha W1 g1 _ fun v W2 g2 p => hs v W2 (g1.trans g2) p Q fun u W3 g3 r => k u W3 (g2.trans g3) r
theorem ev_callP2 {P P2 R : V → Wd → Prop} {sp : Sp} {E : XK} (ha : EvP ε ta σ W P) (hb : EvP ε tb σ W P2) (mono : ∀ v W W', Stp ε W W' → P v W → P v W')
    (hs : ∀ v v2 W1, Stp ε W W1 → P v W1 → P2 v2 W1 → ∀ Q : VK, (∀ u W2, Stp ε W1 W2 → R u W2 → Q u W2.H) → sp [v, v2] W1.H Q E) : EvP ε (tCall sp [] E (tCons ta (tCons tb tNil))) σ W R := fun W1 g1 Q k =>
  ha W1 g1 _ fun v W2 g2 p => hb W2 (g1.trans g2) _ fun v2 W3 g3 p2 => hs v v2 W3 ((g1.trans g2).trans g3) (mono v W2 W3 g3 p) p2 Q fun u W4 g4 r => k u W4 ((g2.trans g3).trans g4) r
end
end B
/-! B: short names of readings, more derivations -/
namespace B
open PySem L2
open Evl (Ex)
abbrev oAdd : R2 := rI0 fun i j => .int (i + j)
abbrev oSub : R2 := rI0 fun i j => .int (i - j)
abbrev oMul : R2 := rI CMul fun i j => .int (i * j)
abbrev oDiv : R2 := rI CDiv fun i j => .int (i / j)
abbrev oMod : R2 := rI (fun _ j => 0 < j) fun i j => .int (i % j)
abbrev oPow : R2 := rI CPow fun i j => .int (i ^ j.toNat)
abbrev oLt : R2 := rI0 fun i j => .bl (decide (i < j))
abbrev oLe : R2 := rI0 fun i j => .bl (decide (i ≤ j))
abbrev oGt : R2 := rI0 fun i j => .bl (decide (j < i))
abbrev oGe : R2 := rI0 fun i j => .bl (decide (j ≤ i))
abbrev oNeg : V → Hp → VK → Prop := rU fun i => .int (-i)
abbrev oIsN : R2 := fun x y H Q => y = .non ∧ Q (.bl (decide (x = .non))) H
abbrev oNotN : R2 := fun x y H Q => y = .non ∧ Q (.bl (!decide (x = .non))) H
abbrev oCatS : R2 := fun x y H Q => ∃ i j, x = .str i ∧ y = .str j ∧ i.length + j.length ≤ sizeLine ∧ Q (.str (i ++ j)) H
abbrev oLtS : R2 := fun x y H Q => ∃ i j, x = .str i ∧ y = .str j ∧ Q (.bl (decide (i.cps.toList < j.cps.toList))) H
abbrev oInS : R2 := fun x y H Q => ∃ i j, x = .str i ∧ y = .str j ∧ Q (.bl (!(Builtin.Str.occurrences j i 0 j.length 1).isEmpty)) H
abbrev tTru (K : Fg) (ta : TE) : TT := fun σ H Q => ta σ H fun x H' => ∃ k, TruV K x H' k ∧ Q k H'
abbrev rInt1 : List V → Hp → VK → Prop := fun xs H Q => (∃ i, xs = [.int i] ∧ Q (.int i) H) ∨ ∃ k, xs = [.bl k] ∧ Q (.int (if k then 1 else 0)) H
abbrev rTupleO (K : Fg) : List V → Hp → VK → Prop := fun xs H Q => ∃ p ys, xs = [.ref p] ∧ ((SqL K H p ys ∧ ∀ l, H l = none → Q (.ref l) (upd H l (.tup ys))) ∨ (SqT K H p ys ∧ Q (.ref p) H))
abbrev rLenD : List V → Hp → VK → Prop := fun xs H Q => ∃ a kvs, xs = [V.ref a] ∧ H a = some (.dK kvs) ∧ Q (.int kvs.length) H
theorem cr_tupleO {X : Cx} : CallR X (.type "tuple") (rTupleO X.K) := call_tuple_of
theorem cr_lenD {X : Cx} : CallR X (.builtin "len") rLenD := call_lenD

/-! ### name = {k: v for ..} -/
section
variable {X : Cx}
theorem ps_setDc {i : Nat} {y : Str} {py : Pos} {kx vx tg iter : Expr} {ifs : List Expr} {scope : Scope} {own : List (Str × Nat)} {pos spos : Pos} {wi : TI} {g : TG} {tt : TT} {tk tv : TE} (hc : X.calm = true) (hN : X.N.Nodup) (hy : X.N[i]? = some y) (hyl : X.env.scope.names.lookup y = some .local)
    (hsw : swapsWith (.DictComp kx vx [⟨tg, iter, ifs, 0⟩] scope pos) (some (.Name y py)) spos.line X.env = pure true) (hi : PI X tg iter wi) (ok : BlkOk X.N X.env.scope scope own)
    (hg : ∀ (s : Shared) (H : Hp) (C : Addr) (cl : List (Str × Addr)) (fp : List Addr), PG (X.blk s H scope (compEnvC scope cl C X.env) fp) tg g) (ht : ∀ (s : Shared) (H : Hp) (C : Addr) (cl : List (Str × Addr)) (fp : List Addr), PTs (X.blk s H scope (compEnvC scope cl C X.env) fp) ifs tt)
    (hk : ∀ (s : Shared) (H : Hp) (C : Addr) (cl : List (Str × Addr)) (fp : List Addr), PE (X.blk s H scope (compEnvC scope cl C X.env) fp) kx tk)
    (he : ∀ (s : Shared) (H : Hp) (C : Addr) (cl : List (Str × Addr)) (fp : List Addr), PE (X.blk s H scope (compEnvC scope cl C X.env) fp) vx tv) (hs : ∀ x, foldedSetIterable iter X.env x = pure x := by intro _; rfl) :
    PS X (.Assign [.Name y py] (.DictComp kx vx [⟨tg, iter, ifs, 0⟩] scope pos) spos) (tAsg (tDc wi g tt tk tv (own.map (·.2))) (gName i)) := by
  refine ⟨fun pins s σ H D I h => ?_⟩
  rw [exec_Assign_Name_used _ _ _ _ hsw]
  refine wpAny_bind (wpAny_standAt (wpAny_bind ?_))
  show wpAny _ X.A (do let _ ← comprehension (.DictComp kx vx [⟨tg, iter, ifs, 0⟩] scope pos) scope X.env (firstIterPos [⟨tg, iter, ifs, 0⟩] pos) newDict false (eval iter X.env) (some (assign (.Name y py) X.env))) _ _ s
  have h : tDc wi g tt tk tv (own.map (·.2)) σ H (fun x H1 => gName i x σ H1 D.nx) := h
  refine wpAny_bind (thn (dc_core (Qf := fun _ s' => SP X pins D .next s') hc hN I hi ok hg ht hk he hs h fun L C s' m H' I' q hn f => ?_) fun _ s' hq => wpAny_pure (wpAny_pure hq))
  show wpAny _ _ (assign (.Name y py) X.env (.ref L)) _ _ _
  refine wpAny_assign_Name (store_ok2 (v := V.ref L) I' hN hy (.inl hyl) rfl (fun s2 I2 ⟨a, sb, ha⟩ => ?_) (.inr hyl))
  obtain ⟨f0, f1, f2, f3, f4, f5⟩ := f
  have haC : C ≠ a := by
    rcases ha with z | z
    · rw [z]; exact f1
    · exact fun e => f4 y a z e.symm
  refine ⟨m, hn.sameBut sb haC, fun h3 sb3 => ?_⟩
  exact ⟨_, H', I2.turned (t' := s2.toks) (fun b o hb e => (sb3.2 b hb).trans e) f0 f1 f3 f4 f5, q⟩
theorem sw_trueD {kx vx : Expr} {gs : List Comprehension} {scope : Scope} {pos py : Pos} {y : Str} {l : Nat} {env : Env} (hk : env.scope.kind = .function) (hy : env.scope.names.lookup y = some .local) (hl : (py.line == pos.line) = true)
    (ha : (scope.names.any fun (n, k) => n == y && (k == .local || k == .cell)) = false) : swapsWith (.DictComp kx vx gs scope pos) (some (.Name y py)) l env = pure true := by
  have ky : env.kindOf y = some .local := hy
  have hb : env.blockKind = .function := by unfold Env.blockKind; rw [hk]; rfl
  unfold swapsWith
  simp only [hb, ky, ha, Expr.pos, hl]
  rfl
end

/-! ### f(k = v, ..) -/
def perm {ζ : Type} (l : List Nat) (ws : List ζ) : List ζ := l.filterMap fun i => ws[i]?
theorem perm_rel (l : List Nat) {vs : List V} {us : List Value} (r : Vals vs us) : Vals (perm l vs) (perm l us) := by
  induction l with
  | nil => exact .nil
  | cons i l ih =>
    unfold perm
    rw [List.filterMap_cons, List.filterMap_cons]
    cases e : vs[i]? with
    | none =>
      rw [r.none_of e]
      exact ih
    | some v =>
      obtain ⟨u, h1, h2⟩ := r.get e
      rw [h1]
      exact .cons h2 ih
def KwB (K : Fg) (fd : FuncData) (ps ks : List Str) (l : List Nat) : Prop := ∀ (s : Shared) (ws : List Value), K.In s.heap → ws.length = ks.length → BindsTo s fd ⟨[], ks.zip ws⟩ (ps.zip (perm l ws))
theorem kwb_mk {K : Fg} {x qual : Str} {st : Stmt} {f : Addr} {fd : FuncData} {ps ks : List Str} {l : List Nat} (F : Fun K x qual st f fd)
    (h : ∀ (kV doc pm : Value) (an : Option Addr) (cdv ct : Value) (us : List Value), us.length = ks.length → bindArgs (PySem.W.fnOf x qual (defArgs st) (defBody st) (defScope st) .none kV doc pm an cdv ct) ⟨[], ks.zip us⟩ = pure (ps.zip (perm l us))) : KwB K fd ps ks l := by
  obtain ⟨oc, od, kV, doc, pm, an, cdv, ct, osl, rfl, lk, hcd⟩ := F.ex
  exact fun s ws _ hl => .of_eq (h kV doc pm an cdv ct ws hl)
def tCallKw (sp : Sp) (l : List Nat) (m : Nat) (E : XK) (tk : TA) : TE := fun σ H Q => tk σ H fun zs H2 => zs.length = m ∧ sp (perm l zs) H2 Q E
theorem pe_callKw {X : Cx} {CX : CXT} {k : Nat} {f : Addr} {fd : FuncData} {ps ks : List Str} {l : List Nat} {sp : Sp} {E : XK} {x : Str} {p pos : Pos} {kws : List Keyword} {tk : TA} {m : Nat}
    (F : FnOk X.prog X.w X.K X.mg X.base CX k f fd ps sp) (hr : Room k X.A) (hg : Gl X x) (hm : X.mg x = some (.ref f)) (hk : PySem.W.keepIn X.K (.ref f) = true) (hb : KwB X.K fd ps ks l) (hx : Passes CX X E)
    (hkw : PK X kws tk) (hall : (backToKw pos (keywordEach kws X.env)).all (·.1.isSome) = true := by rfl) (hks : (backToKw pos (keywordEach kws X.env)).filterMap (·.1) = ks := by rfl)
    (hm' : m = ks.length := by rfl) (hdb : (x == ("__debug__" : Str)) = false := by decide)
    (hpl : ((backTo pos (starEach [] X.env)).any (·.1) || (backToKw pos (keywordEach kws X.env)).any (·.1.isNone)) = false := by rfl) :
    PE X (.Call (.Name x p) [] kws pos) (tCallKw sp l m E tk) := by
  subst hm'
  refine ⟨fun pins s σ H Q I h => ?_⟩
  refine wpAny_Call_Name_kw (ld_glob I hg hm ?_ hdb)
  refine PySem.W.callWith_KW0 (h₀ := X.base) I.ok.mod.kin hk hall (thn (hkw.run pos pins s σ H _ I h) fun ws s2 ⟨zs, H2, I2, rz, hl, q2⟩ => ⟨I2.kIn, ?_⟩) hpl
  rw [hks]
  have r2 := perm_rel l rz
  refine wpAny_call (codeAny_mono (F.run X.A X.stack s2 H2 ⟨[], ks.zip ws⟩ (perm l ws) (perm l zs) Q E hr I2.env0 (hb s2 ws I2.kIn (by rw [← rz.length]; exact hl)) r2 q2) fun r s' hq => ?_)
  cases r with
  | error e => exact hx pins σ H2 s2 e s' I2 hq
  | ok fl =>
    cases fl with
    | ret u => exact I2.after hq
    | next => exact False.elim hq
    | brk => exact False.elim hq
    | cont => exact False.elim hq
end B
/-! the draws of the laws: begun, draw, pick -/
namespace B
open PySem L2
open Evl (Ex)
/-- the state of draws: the list at p holds the cells' list (at c), the place, the mixed number -/
structure St (W : Wd) (p c : Addr) : Prop where
  bp : W.B p = none
  bc : W.B c = none
  ne : p ≠ c
  ex : ∃ (a m : Int) (cs : List Int), W.H p = some (.lst [.ref c, .int a, .int m]) ∧ W.H c = some (.lst (cs.map V.int)) ∧ cs ≠ [] ∧ (∀ x ∈ cs, 0 ≤ x) ∧ 0 ≤ a ∧ 0 ≤ m ∧ m < 2147483647
theorem St.keep {W W' : Wd} {p c : Addr} (s : St W p c) (hp : W'.H p = W.H p) (hc : W'.H c = W.H c) (bp : W'.B p = W.B p) (bc : W'.B c = W.B c) : St W' p c :=
  ⟨bp.trans s.bp, bc.trans s.bc, s.ne, by
    obtain ⟨a, m, cs, h1, h2, r⟩ := s.ex
    exact ⟨a, m, cs, hp.trans h1, hc.trans h2, r⟩⟩
theorem St.dom {W : Wd} {p c : Addr} (s : St W p c) : W.H p ≠ none ∧ W.H c ≠ none := by
  obtain ⟨a, m, cs, h1, h2, _⟩ := s.ex
  exact ⟨by rw [h1]; exact (fun z => by cases z), by rw [h2]; exact (fun z => by cases z)⟩
theorem St.off {S : List Addr} {W W' : Wd} {p c : Addr} (s : St W p c) (g : Md S W W') (hp : p ∉ S) (hc : c ∉ S) : St W' p c := by
  obtain ⟨a, m, cs, h1, h2, r⟩ := id s.ex
  exact s.keep ((g.o p _ hp h1).trans h1.symm) ((g.o c _ hc h2).trans h2.symm) (g.m p s.dom.1) (g.m c s.dom.2)
theorem St.g {W W' : Wd} {p c : Addr} (s : St W p c) (g : Grow W W') : St W' p c := s.off g (by simp) (by simp)
/-- the effect of drawing -/
def drw (p c : Addr) : Ef := ⟨[p, c], fun W => St W p c, fun W a s h => by
    have : a = p ∨ a = c := by simpa using h
    rcases this with e | e <;> rw [e]
    · exact s.dom.1
    · exact s.dom.2,
  fun W W' b h s => by
    have h1 := h p (by simp) s.dom.1
    have h2 := h c (by simp) s.dom.2
    exact s.keep h1.1 h2.1 h1.2 h2.2⟩

def sp__law_begun (K : Fg) : Sp := fun vs H Q _ => ∃ (W : Wd) (a : Addr) (ns : List Int), W.H = H ∧ vs = [.ref a] ∧ SqL K W.B a (ns.map V.int) ∧ ns.length ≤ 63 ∧
  ∀ p c W', Grow W W' → St W' p c → W.H p = none → W.H c = none → Q (.ref p) W'.H
theorem len__law_begun {K : Fg} {vs : List V} {H : Hp} {Q : VK} {E : XK} (h : sp__law_begun K vs H Q E) : vs.length = ["_law_script"].length := by
  obtain ⟨W, a, ns, _, rfl, _⟩ := h
  rfl
/-- _law_begun: the slots 0 _law_script, 1 _law_cells, 2 _law_cell -/
abbrev n__law_begun : List Str := ["_law_script", "_law_cells", "_law_cell"]
def t__law_begun (K : Fg) : TS := (tSeq (tAsg (tLc (iList K (tVar 0)) (gName 2) tYes (tCB rAbs (tCons (tVar 2) tNil)) [2]) (gName 1))
  (tSeq (tIfS (tTest (tOp (rEqT K false) (tVar 1) (tLst tNil))) (tAsg (tLst (tCons (tC (.int 1)) tNil)) (gName 1)) tNext)
  (tRet (tLst (tCons (tVar 1) (tCons (tC (.int 0)) (tCons (tC (.int 1)) tNil)))))))
def sp__law_draw (K : Fg) : Sp := fun vs H Q _ => ∃ (W : Wd) (p c : Addr) (n : Int), W.H = H ∧ vs = [.ref p, .int n] ∧ St W p c ∧ 0 < n ∧ n < 1073741824 ∧
  ∀ r W', 0 ≤ r → r < n → Md [p, c] W W' → St W' p c → Q (.int r) W'.H
theorem len__law_draw {K : Fg} {vs : List V} {H : Hp} {Q : VK} {E : XK} (h : sp__law_draw K vs H Q E) : vs.length = ["_law_state", "_law_number"].length := by
  obtain ⟨W, p, c, n, _, rfl, _⟩ := h
  rfl
/-- _law_draw: the slots 0 _law_state, 1 _law_number, 2 _law_cells, 3 _law_at, 4 _law_cell -/
abbrev n__law_draw : List Str := ["_law_state", "_law_number", "_law_cells", "_law_at", "_law_cell"]
def t__law_draw (K : Fg) : TS := (tSeq (tAsg (tOp (rIxL K) (tVar 0) (tC (.int 0))) (gName 2))
  (tSeq (tAsg (tOp oMod (tOp (rIxL K) (tVar 0) (tC (.int 1))) (tCB (rLen K) (tCons (tVar 2) tNil))) (gName 3))
  (tSeq (tAsg (tOp (rIxL K) (tVar 2) (tVar 3)) (gName 4))
  (tSeq (tIfS (tTest (tOp oGe (tVar 4) (tOp oPow (tC (.int 10)) (tC (.int 18))))) (tSeq (tAsg (tOp oDiv (tVar 4) (tVar 1)) (gSub (tVar 2) (tVar 3) rSetL))
  (tRet (tOp oMod (tVar 4) (tVar 1)))) tNext)
  (tSeq (tAsg (tOp oAdd (tOp (rIxL K) (tVar 0) (tC (.int 1))) (tC (.int 1))) (gSub (tVar 0) (tC (.int 1)) rSetL))
  (tSeq (tAsg (tOp oMod (tOp oAdd (tOp oAdd (tOp oMul (tOp (rIxL K) (tVar 0) (tC (.int 2))) (tC (.int 48271))) (tVar 4)) (tC (.int 12345))) (tC (.int 2147483647))) (gSub (tVar 0) (tC (.int 2)) rSetL))
  (tRet (tOp oMod (tOp oDiv (tOp oMod (tOp oMul (tOp (rIxL K) (tVar 0) (tC (.int 2))) (tOp (rIxL K) (tVar 0) (tC (.int 2)))) (tC (.int 2147483629))) (tC (.int 16))) (tVar 1)))))))))
def sp__law_pick (K : Fg) : Sp := fun vs H Q _ => ∃ (W : Wd) (p c b : Addr) (ys : List V), W.H = H ∧ vs = [.ref p, .ref b] ∧ St W p c ∧ W.B b = some (.lst ys) ∧ ys ≠ [] ∧ ys.length < 100000 ∧
  ∀ y W', y ∈ ys → Md [p, c] W W' → St W' p c → Q y W'.H
theorem len__law_pick {K : Fg} {vs : List V} {H : Hp} {Q : VK} {E : XK} (h : sp__law_pick K vs H Q E) : vs.length = ["_law_state", "_law_some"].length := by
  obtain ⟨W, p, c, b, ys, _, rfl, _⟩ := h
  rfl
/-- _law_pick: the slots 0 _law_state, 1 _law_some -/
abbrev n__law_pick : List Str := ["_law_state", "_law_some"]
def t__law_pick (K : Fg) : TS := (tRet (tOp (rIxL K) (tVar 1) (tCall (sp__law_draw K) [] E0 (tCons (tVar 0) (tCons (tCB (rLen K) (tCons (tVar 1) tNil)) tNil)))))
section
variable {K : Fg} {vs : List V} {H : Hp} {Q : VK} {E : XK}
theorem sq_items {a : Addr} {W : Wd} {ns : List Int} (h : SqL K W.B a (ns.map V.int)) {σ : SS} {i : Nat} (hv : σ[i]? = some (some (.ref a))) : EvJ pur K (iList K (tVar i)) σ W ns := fun W1 g1 R k => by
  have s : ∀ W', On W W' → SqL K W'.H a (ns.map V.int) := fun W' o => W'.sub.l ((exExt o.b).l h)
  refine ⟨.ref a, hv, a, rfl, ⟨_, s W1 g1.on⟩, k (Itl K a) W1 g1.rf ⟨fun i W' o hi => ?_, fun i W' v H'' o hi ⟨e1, e2⟩ => ?_, fun i W' o hi => ?_⟩⟩
  · exact ⟨_, V.int ns[i], s W' (g1.on.trans o), by simp [hi]⟩
  · have := e2 _ (s W' (g1.on.trans o))
    rw [List.getElem?_map] at this
    cases q : ns[i]? with
    | none => rw [q] at this; cases this
    | some z =>
      rw [q] at this
      exact ⟨z, W', e1.symm, .refl _ _, rfl, (Option.some.inj this).symm⟩
  · exact ⟨_, s W' (g1.on.trans o), by simpa using hi⟩
theorem rd__law_begun (h : sp__law_begun K vs H Q E) : t__law_begun K { nx := fun _ H' => Q .non H', rt := Q } (start n__law_begun vs) H := by
  obtain ⟨W, a, ns, rfl, rfl, hs, hl, k⟩ := h
  show t__law_begun K _ [some (.ref a), none, none] W.H
  -- cells = [abs(cell) for cell in script]
  refine q_asgN (ε := pur) (xs := ns.map fun n => if n < 0 then -n else n) (en_lcN (sq_items hs rfl).i (fun x v W' hx g r => ev_cb1 (ev_var rfl r) rc_abs) (by omega)) trivial fun p1 vs1 W1 g1 f1 n1 e1 r1 => ?_
  have ei1 : vs1 = (ns.map fun n => if n < 0 then -n else n).map V.int := reps_int r1
  subst ei1
  have fin : ∀ (W2 : Wd) (cs : List Int) (c : Addr), Grow W W2 → W.H c = none → W2.B c = none → W2.H c = some (.lst (cs.map V.int)) → cs ≠ [] → (∀ x ∈ cs, 0 ≤ x) →
      tRet (tLst (tCons (tVar 1) (tCons (tC (V.int 0)) (tCons (tC (V.int 1)) tNil)))) { nx := fun _ H' => Q .non H', rt := Q } [some (.ref a), some (.ref c), none] W2.H := fun W2 cs c g f n e hne hp => by
    refine ⟨_, rfl, Evl.sz_of (by show 3 ≤ 100000; decide), fun p hp' => ?_⟩
    have npc : p ≠ c := fun z => by rw [z, e] at hp'; cases hp'
    exact k p c (W2.put p _ (W2.free hp')) (g.trans (W2.grow_put hp')) ⟨W2.free hp', n, npc, 0, 1, cs, upd_same, (upd_ne npc.symm).trans e, hne, hp, by decide, by decide, by decide⟩ (by
      cases q : W.H p with
      | none => rfl
      | some o => exact absurd hp' (g.d p (by rw [q]; exact fun z => by cases z))) f
  -- if cells == []
  refine ⟨_, rfl, Evl.sz_of (by show 0 ≤ 100000; decide), fun pe hpe => ⟨List Int, inferInstance, inferInstance, ns.map fun n => if n < 0 then -n else n, [], ?_, ?_, by decide, _, rfl, ?_⟩⟩
  · have ne : p1 ≠ pe := fun z => by rw [z, hpe] at e1; cases e1
    exact PyD.dp (α := List Int) ⟨p1, _, rfl, (upd_ne ne).trans e1, int_reps _⟩
  · exact PyD.dp (α := List Int) ⟨pe, _, rfl, upd_same, .nil⟩
  · have g2 : Grow W1 (W1.put pe (.lst []) (W1.free hpe)) := W1.grow_put hpe
    have m2 := g2.mut (by simp) e1 n1
    refine ite2 (fun hb => ?_) (fun hb => ?_)
    · refine ⟨Evl.sz_of (by show 1 ≤ 100000; decide), fun p hp => ?_⟩
      have hp0 : (W1.put pe (.lst []) (W1.free hpe)).H p = none := hp
      refine fin ((W1.put pe (.lst []) (W1.free hpe)).put p (.lst [.int 1]) (Wd.free _ hp0)) [1] p ((g1.pure.trans g2).trans (Wd.grow_put _ hp0)) ?_ (Wd.free (W1.put pe (.lst []) (W1.free hpe)) hp0) upd_same (by simp) (by simp)
      cases q : W.H p with
      | none => rfl
      | some o => exact absurd hp0 ((g1.pure.trans g2).d p (by rw [q]; exact fun z => by cases z))
    · refine fin (W1.put pe (.lst []) (W1.free hpe)) _ p1 (g1.pure.trans g2) f1 m2.2 m2.1 (of_decide_eq_false (by simpa using hb)) ?_
      intro x hx
      simp only [List.mem_map] at hx
      obtain ⟨n, _, rfl⟩ := hx
      split <;> omega
theorem rd__law_draw (h : sp__law_draw K vs H Q E) : t__law_draw K { nx := fun _ H' => Q .non H', rt := Q } (start n__law_draw vs) H := by
  obtain ⟨W, p, c, n, rfl, rfl, s, hn, hn2, k⟩ := h
  obtain ⟨a, m, cs, h1, h2, hne, hpos, ha, hm, hm2⟩ := id s.ex
  show t__law_draw K _ [some (.ref p), some (.int n), none, none, none] W.H
  have hlen : 0 < cs.length := List.length_pos_iff.mpr hne
  have hlenI : (0 : Int) < (cs.length : Int) := by omega
  obtain ⟨j, hj, hj2⟩ : ∃ j : Nat, a % (cs.length : Int) = (j : Int) ∧ j < cs.length := by
    have e1 := Int.emod_nonneg a (show (cs.length : Int) ≠ 0 by omega)
    have e2 := Int.emod_lt_of_pos a hlenI
    exact ⟨(a % (cs.length : Int)).toNat, by omega, by omega⟩
  have hx : (cs.map V.int)[j]? = some (V.int cs[j]) := by simp [hj2]
  have hx0 : 0 ≤ cs[j] := hpos _ (List.getElem_mem _)
  -- cells = state[0]; at = state[1] % len(cells); cell = cells[at]
  refine ⟨_, rfl, p, _, 0, _, rfl, rfl, SqL.of h1, rfl, ?_⟩
  refine ⟨_, rfl, p, _, 1, _, rfl, rfl, SqL.of h1, rfl, _, rfl, c, _, rfl, .inl (SqL.of h2), _, _, rfl, rfl, by rw [List.length_map]; exact hlenI, ?_⟩
  simp only [List.length_map, hj, gName]
  refine ⟨_, rfl, _, rfl, c, _, _, _, rfl, rfl, SqL.of h2, atI_nat hx, ?_⟩
  -- if cell >= 10 ** 18
  refine ⟨_, rfl, _, _, rfl, rfl, ⟨by decide, by decide, by decide⟩, _, _, rfl, rfl, _, rfl, ?_⟩
  refine ite2 (fun hc => ?_) (fun hc => ?_)
  · refine ⟨_, rfl, _, rfl, _, _, rfl, rfl, ⟨hn, hn2⟩, _, rfl, _, rfl, c, _, _, j, rfl, rfl, h2, by rw [List.length_map]; exact Evl.ixN_nat hj2, ?_⟩
    refine ⟨_, rfl, _, rfl, _, _, rfl, rfl, hn, ?_⟩
    refine k _ (W.put c _ s.bc) (Int.emod_nonneg _ (by omega)) (Int.emod_lt_of_pos _ hn) ((md_put s.bc).mono (by intro x; simp; exact fun h => .inr h)) ⟨s.bp, s.bc, s.ne, a, m, cs.set j (cs[j] / n), ?_, ?_, ?_, ?_, ha, hm, hm2⟩
    · show upd W.H c _ p = _
      rw [upd_ne s.ne]; exact h1
    · show upd W.H c _ c = _
      rw [upd_same, List.map_set]
    · intro z
      apply hne
      have : (cs.set j (cs[j] / n)).length = 0 := by rw [z]; rfl
      rw [List.length_set] at this
      exact List.length_eq_zero_iff.mp this
    · intro x hx'
      rcases List.mem_or_eq_of_mem_set hx' with z | z
      · exact hpos x z
      · rw [z]; exact Int.ediv_nonneg hx0 (by omega)
  · refine ⟨_, rfl, p, _, 1, _, rfl, rfl, SqL.of h1, rfl, _, _, rfl, rfl, _, rfl, p, _, _, 1, rfl, rfl, h1, rfl, ?_⟩
    refine ⟨_, rfl, p, _, 2, _, rfl, rfl, SqL.of upd_same, rfl, _, _, rfl, rfl, .inl ⟨by omega, by omega⟩, _, rfl, _, _, rfl, rfl, _, _, rfl, rfl, _, _, rfl, rfl, by show (0 : Int) < 2147483647; decide, _, rfl, p, _, _, 2, rfl, rfl, upd_same, rfl, ?_⟩
    have m0 := Int.emod_nonneg (m * 48271 + cs[j] + 12345) (show (2147483647 : Int) ≠ 0 by decide)
    have m1 := Int.emod_lt_of_pos (m * 48271 + cs[j] + 12345) (show (0 : Int) < 2147483647 by decide)
    refine ⟨_, rfl, p, _, 2, _, rfl, rfl, SqL.of upd_same, rfl, _, rfl, p, _, 2, _, rfl, rfl, SqL.of upd_same, rfl, _, _, rfl, rfl, .inl ⟨by omega, by omega⟩, _, _, rfl, rfl, by show (0 : Int) < 2147483629; decide, _, _, rfl, rfl, ⟨by decide, by decide⟩, _, rfl, _, _, rfl, rfl, hn, ?_⟩
    rw [upd_upd]
    refine k _ (W.put p _ s.bp) (Int.emod_nonneg _ (by omega)) (Int.emod_lt_of_pos _ hn) ((md_put s.bp).mono (by intro x; simp; exact fun h => .inl h)) ⟨s.bp, s.bc, s.ne, a + 1, _, cs, upd_same, ?_, hne, hpos, by omega, m0, m1⟩
    show upd W.H p _ c = _
    rw [upd_ne (Ne.symm s.ne)]; exact h2
theorem rd__law_pick (h : sp__law_pick K vs H Q E) : t__law_pick K { nx := fun _ H' => Q .non H', rt := Q } (start n__law_pick vs) H := by
  obtain ⟨W, p, c, b, ys, rfl, rfl, s, hb, hne, hl, k⟩ := h
  have hlen : 0 < ys.length := List.length_pos_iff.mpr hne
  have hbH : W.H b = some (.lst ys) := W.sub.el hb
  refine ⟨_, rfl, _, rfl, _, rfl, b, _, rfl, .inl (SqL.of hbH), W, p, c, _, rfl, rfl, s, by omega, by omega, fun r W' h0 h1 g s' => ?_⟩
  have hb' : W'.H b = some (.lst ys) := W'.sub.el (g.b _ _ hb)
  obtain ⟨j, rfl⟩ : ∃ j : Nat, r = (j : Int) := ⟨r.toNat, by omega⟩
  have hj : j < ys.length := by omega
  exact ⟨b, ys, j, ys[j], rfl, rfl, SqL.of hb', atI_nat (by simp [hj]), k _ W' (List.getElem_mem _) g s'⟩
end
end B
/-! law_k20: what it computes -/
namespace B
open PySem L2
open Evl (Ex)
def reachF (kv : List (Int × Int)) (m : Int) : Int := (kv.map fun q => q.2 * (if m < q.1 then m else q.1)).sum
def sp_reach (K : Fg) : Sp := fun vs H Q _ => ∃ (W : Wd) (v : V) (kv : List (Int × Int)) (m : Int), W.H = H ∧ vs = [v, .int m] ∧ DictAt K W v ⟨kv⟩ ∧ (∀ q ∈ kv, 0 ≤ q.2 ∧ q.2 ≤ 1000000000) ∧ kv.length ≤ 100000 ∧
  ∀ W', Grow W W' → Q (.int (reachF kv m)) W'.H
theorem len_reach {K : Fg} {vs : List V} {H : Hp} {Q : VK} {E : XK} (h : sp_reach K vs H Q E) : vs.length = ["sizes", "many"].length := by
  obtain ⟨W, v, kv, m, _, rfl, _⟩ := h
  rfl
/-- reach: the slots 0 sizes, 1 many, 2 size, 3 times -/
abbrev n_reach : List Str := ["sizes", "many", "size", "times"]
def t_reach (K : Fg) : TS := (tRet (tCB (rSum K) (tCons (tLockE (tLc (iItems (tVar 0)) (gPair K 2 3) tYes (tOp oMul (tVar 3) (tCB rMin2 (tCons (tVar 2) (tCons (tVar 1) tNil)))) [2, 3])) tNil)))
/-- sizes as drawn: from 1 to 12, times from nought to 10 ** 9 -/
def SzOk (kv : List (Int × Int)) : Prop := (kv.map (·.1)).Nodup ∧ kv.length ≤ 12 ∧ ∀ q ∈ kv, 1 ≤ q.1 ∧ q.1 ≤ 12 ∧ 0 ≤ q.2 ∧ q.2 ≤ 1000000000
def sp__law_sizes (K : Fg) : Sp := fun vs H Q _ => ∃ (W : Wd) (p c : Addr), W.H = H ∧ vs = [.ref p] ∧ St W p c ∧
  ∀ v kv W', SzOk kv → DictAt K W' v ⟨kv⟩ → Md [p, c] W W' → St W' p c → Q v W'.H
theorem len__law_sizes {K : Fg} {vs : List V} {H : Hp} {Q : VK} {E : XK} (h : sp__law_sizes K vs H Q E) : vs.length = ["_law_state"].length := by
  obtain ⟨W, p, c, _, rfl, _⟩ := h
  rfl
/-- _law_sizes: the slots 0 _law_state, 1 _law_found, 2 _law_k -/
abbrev n__law_sizes : List Str := ["_law_state", "_law_found", "_law_k"]
def t__law_sizes (K : Fg) : TS := (tSeq (tAsg tDNewK (gName 1))
  (tSeq (tFor (iRng1 (tCons (tCall (sp__law_draw K) [] E0 (tCons (tVar 0) (tCons (tC (.int 7)) tNil))) tNil)) (gName 2)
  (sDPut (tVar 1) (tOp oAdd (tC (.int 1)) (tCall (sp__law_draw K) [] E0 (tCons (tVar 0) (tCons (tC (.int 12)) tNil)))) (tCall (sp__law_pick K) [] E0 (tCons (tVar 0) (tCons (tLst (tCons (tC (.int 0)) (tCons (tC (.int 1)) (tCons (tCall (sp__law_draw K) [] E0 (tCons (tVar 0) (tCons (tC (.int 5)) tNil))) (tCons (tCall (sp__law_draw K) [] E0 (tCons (tVar 0) (tCons (tOp oAdd (tOp oPow (tC (.int 10)) (tC (.int 9))) (tC (.int 1))) tNil))) tNil))))) tNil)))))
  (tRet (tVar 1))))
def sp_law (K : Fg) : Sp := fun vs H Q _ => ∃ (a : Addr) (ns : List Int), vs = [.ref a] ∧ SqL K H a (ns.map V.int) ∧ ns.length ≤ 63 ∧ ∀ H', Q (.bl true) H'
theorem len_law {K : Fg} {vs : List V} {H : Hp} {Q : VK} {E : XK} (h : sp_law K vs H Q E) : vs.length = ["_law_script"].length := by
  obtain ⟨a, ns, rfl, _⟩ := h
  rfl
theorem law_in {K : Fg} {H : Hp} (a : Addr) (ns : List Int) (hl : ns.length ≤ 63) (hS : SqL K H a (ns.map V.int)) : sp_law K [.ref a] H (fun v _ => v = .bl true) (fun _ _ _ => False) := ⟨a, ns, rfl, hS, hl, fun _ => rfl⟩
/-- law: the slots 0 _law_script, 1 _law_state, 2 _law_turn, 3 _law_lots, 4 _law_kept, 5 _law_due, 6 _law_told, 7 _law_number, 8 _law_size, 9 _law_times, 10 _law_steps -/
abbrev n_law : List Str := ["_law_script", "_law_state", "_law_turn", "_law_lots", "_law_kept", "_law_due", "_law_told", "_law_number", "_law_size", "_law_times", "_law_steps"]
def t_law (K : Fg) : TS := (tSeq (tAsg (tCall (sp__law_begun K) [] E0 (tCons (tVar 0) tNil)) (gName 1))
  (tSeq (tFor (iRng1 (tCons (tC (.int 4)) tNil)) (gName 2)
  (tSeq (tAsg (tCall (sp__law_sizes K) [] E0 (tCons (tVar 1) tNil)) (gName 3))
  (tSeq (tPar 4 5 (tCons (tCB rDictC (tCons (tVar 3) tNil)) (tCons (tC (.int 0)) tNil)))
  (tSeq (tAsg (tLc (iRng1 (tCons (tC (.int 15)) tNil)) (gName 7) tYes (tCall (sp_reach K) [] E0 (tCons (tVar 3) (tCons (tVar 7) tNil))) [7]) (gName 6))
  (tSeq (tFor (iRng1 (tCons (tC (.int 15)) tNil)) (gName 7)
  (tSeq (tIfS (tOr (tB (tCB (rIsi K) (tCons (tOp (rIxL K) (tVar 6) (tVar 7)) (tCons (tC (.ty "bool")) tNil)))) (tOr (tNot (tB (tCB (rIsi K) (tCons (tOp (rIxL K) (tVar 6) (tVar 7)) (tCons (tC (.ty "int")) tNil))))) (tTest (tOp rNe (tOp (rIxL K) (tVar 6) (tVar 7)) (tVar 5))))) (tRet (tC (.bl false))) tNext)
  (tAsg (tOp oAdd (tVar 5) (tCB (rSum K) (tCons (tLockE (tLc (iItems (tVar 4)) (gPair K 8 9) (tTest (tOp oGt (tVar 8) (tVar 7))) (tVar 9) [8, 9])) tNil))) (gName 5))))
  (tSeq (tIfS (tOr (tTest (tOp rNe (tCallKw (sp_reach K) [1, 0] 2 E0 (tCons (tC (.int 3)) (tCons (tVar 3) tNil))) (tOp (rIxL K) (tVar 6) (tC (.int 3))))) (tTest (tOp (rEqT K true) (LiI.tListItems (tVar 3)) (LiI.tListItems (tVar 4))))) (tRet (tC (.bl false))) tNext)
  (tSeq (tAsg (tLc (iRng1 (tCons (tC (.int 14)) tNil)) (gName 7) tYes (tOp oSub (tOp (rIxL K) (tVar 6) (tOp oAdd (tVar 7) (tC (.int 1)))) (tOp (rIxL K) (tVar 6) (tVar 7))) [7]) (gName 10))
  (tIfS (tOr (tTest (tOp (rEqT K true) (tVar 10) (tRevL K (tCB (rSortedI K) (tCons (tVar 10) tNil))))) (tTest (tOp rNe (tOp (rIxL K) (tVar 6) (tC (.int 12))) (tCB (rSum K) (tCons (tLockE (tLc (iItems (tVar 4)) (gPair K 8 9) tYes (tOp oMul (tVar 8) (tVar 9)) [8, 9])) tNil))))) (tRet (tC (.bl false))) tNext))))))))
  (tRet (tOp rEq (tCall (sp_reach K) [] E0 (tCons tDNewK (tCons (tC (.int 5)) tNil))) (tC (.int 0))))))
/-! ### the mathematics -/
def sumOver (kv : List (Int × Int)) (n : Int) : Int := ((kv.filter fun q => decide (n < q.1)).map (·.2)).sum
theorem reach_nil (m : Int) : reachF [] m = 0 := rfl
theorem reach_cons (q : Int × Int) (kv : List (Int × Int)) (m : Int) : reachF (q :: kv) m = q.2 * (if m < q.1 then m else q.1) + reachF kv m := rfl
theorem over_cons (q : Int × Int) (kv : List (Int × Int)) (n : Int) : sumOver (q :: kv) n = (if n < q.1 then q.2 else 0) + sumOver kv n := by
  unfold sumOver
  by_cases h : n < q.1
  · simp [List.filter_cons, h]
  · simp [List.filter_cons, h]
theorem reach_step (n : Int) (hn : 0 ≤ n) : ∀ kv : List (Int × Int), (∀ q ∈ kv, 1 ≤ q.1) → reachF kv (n + 1) = reachF kv n + sumOver kv n
  | [], _ => rfl
  | q :: kv, h => by
    rw [reach_cons, reach_cons, over_cons, reach_step n hn kv fun q hq => h q (List.mem_cons_of_mem _ hq)]
    have e : q.2 * (if n + 1 < q.1 then n + 1 else q.1) = q.2 * (if n < q.1 then n else q.1) + (if n < q.1 then q.2 else 0) := by
      by_cases h1 : n + 1 < q.1
      · rw [if_pos h1, if_pos (by omega), if_pos (by omega), Int.mul_add, Int.mul_one]
      · by_cases h2 : n < q.1
        · have : q.1 = n + 1 := by omega
          rw [if_neg h1, if_pos h2, if_pos h2, this, Int.mul_add, Int.mul_one]
        · rw [if_neg h1, if_neg h2, if_neg h2, Int.add_zero]
    rw [e]
    omega
theorem reach_zero : ∀ kv : List (Int × Int), (∀ q ∈ kv, 1 ≤ q.1) → reachF kv 0 = 0
  | [], _ => rfl
  | q :: kv, h => by
    have h1 := h q List.mem_cons_self
    rw [reach_cons, reach_zero kv fun q hq => h q (List.mem_cons_of_mem _ hq), if_pos (by omega), Int.mul_zero]
    rfl
theorem over_anti (n : Int) : ∀ kv : List (Int × Int), (∀ q ∈ kv, 0 ≤ q.2) → ∀ m, n ≤ m → sumOver kv m ≤ sumOver kv n
  | [], _, _, _ => Int.le_refl _
  | q :: kv, h, m, hm => by
    have h1 := h q List.mem_cons_self
    have ih := over_anti n kv (fun q hq => h q (List.mem_cons_of_mem _ hq)) m hm
    rw [over_cons, over_cons]
    split <;> split <;> omega
theorem reach_all : ∀ kv : List (Int × Int), (∀ q ∈ kv, q.1 ≤ 12) → reachF kv 12 = (kv.map fun q => q.1 * q.2).sum
  | [], _ => rfl
  | q :: kv, h => by
    have h1 := h q List.mem_cons_self
    rw [reach_cons, reach_all kv fun q hq => h q (List.mem_cons_of_mem _ hq), if_neg (by omega), List.map_cons, List.sum_cons, Int.mul_comm]
def stepsF (kv : List (Int × Int)) : List Int := (rng 0 14).map fun n => reachF kv (n + 1) - reachF kv n
theorem steps_eq (kv : List (Int × Int)) (h : ∀ q ∈ kv, 1 ≤ q.1) : stepsF kv = (rng 0 14).map (sumOver kv) := by
  unfold stepsF
  refine List.map_congr_left fun n hn => ?_
  rw [reach_step n (rng_mem.mp hn).1 kv h]
  omega
theorem steps_fall (kv : List (Int × Int)) (h : ∀ q ∈ kv, 1 ≤ q.1) (h2 : ∀ q ∈ kv, 0 ≤ q.2) : (stepsF kv).reverse.Pairwise (· ≤ ·) := by
  rw [steps_eq kv h, List.pairwise_reverse, List.pairwise_map]
  unfold rng
  rw [List.pairwise_map]
  refine List.pairwise_lt_range.imp fun {a b} hab => ?_
  exact over_anti _ kv h2 _ (by omega)

section
variable {K : Fg} {vs : List V} {H : Hp} {Q : VK} {E : XK}
theorem rd_reach (h : sp_reach K vs H Q E) : t_reach K { nx := fun _ H' => Q .non H', rt := Q } (start n_reach vs) H := by
  obtain ⟨W, v, kv, m, rfl, rfl, ⟨a, ks, rfl, hB, hH, hr⟩, hb, hl, k⟩ := h
  refine s_ret (ε := pur) (x := reachF kv m) (K := K) (ev_cb1 (ev_lock hH fun WL lk => ev_lcP (K := K) (ei_items (ev_rvar rfl) lk.lk (KReps.mono (exExt lk.b) hr)) (fun x v u W' hx g r1 r2 => ?_) hl) rc_sum) trivial fun v W' g r => ?_
  · have := hb x hx
    exact ev_op (ev_var rfl r2) (ev_cb2 (ev_var rfl r1) (ev_var rfl (show rep K W'.B (V.int m) m from rfl)) rc_min2) (ro_I (.inl ⟨by omega, by omega⟩))
  · rw [show v = _ from r]; exact k W' g.pure
theorem rd__law_sizes (h : sp__law_sizes K vs H Q E) : t__law_sizes K { nx := fun _ H' => Q .non H', rt := Q } (start n__law_sizes vs) H := by
  obtain ⟨W, p, c, rfl, rfl, s, k⟩ := h
  show t__law_sizes K _ [some (.ref p), none, none] W.H
  intro d hd
  -- the dict stands at d and may change
  let W0 := W.put d (.dK []) (W.free hd)
  have g0 : Grow W W0 := W.grow_put hd
  have s0 : St W0 p c := s.g g0
  have dp : d ≠ p := fun z => s.dom.1 (z ▸ hd)
  have dc : d ≠ c := fun z => s.dom.2 (z ▸ hd)
  refine ⟨_, rfl, W0, p, c, 7, rfl, rfl, s0, by decide, by decide, fun n W1 n0 n7 g1 s1 => ?_⟩
  have m1 := g1.mut (a := d) (o := .dK []) (by simp [dp, dc]) upd_same (W.free hd)
  refine ⟨n, rfl, by omega, by omega, for_rng (W2 := W1) (fun i σ W' => ∃ (v : Option V) (kv : List (Int × Int)) (ks : List (Key × V)), σ = [some (.ref p), some (.ref d), v] ∧ Md [p, c] W W' ∧ On W1 W' ∧ St W' p c ∧ W'.B d = none ∧ W'.H d = some (.dK ks) ∧ KReps K W'.B ks kv ∧ SzOk kv ∧ kv.length ≤ i)
    ⟨none, [], [], rfl, g0.s.trans g1, .refl _, s1, m1.2, m1.1, .nil, ⟨List.nodup_nil, by simp, by simp⟩, by simp⟩ (fun i σ' W' ⟨_, _, _, _, _, o, _⟩ => o) ?_ ?_⟩
  · rintro i σ' W' hi ⟨v, kv, ks, rfl, g, o, s', bd, hd', r, ok, hl⟩
    -- the value: picked of [0, 1, draw 5, draw (10 ** 9 + 1)]
    refine ⟨_, rfl, _, rfl, W', p, c, 5, rfl, rfl, s', by decide, by decide, fun r1 W2 a1 b1 g2 s2 => ?_⟩
    refine ⟨_, rfl, _, _, rfl, rfl, ⟨by decide, by decide, by decide⟩, _, _, rfl, rfl, W2, p, c, 1000000001, rfl, rfl, s2, by decide, by decide, fun r2 W3 a2 b2 g3 s3 => ⟨Evl.sz_of (by show 4 ≤ 100000; decide), fun l hl' => ?_⟩⟩
    let W4 := W3.add l (.lst [.int 0, .int 1, .int r1, .int r2])
    have g4 : Grow W3 W4 := W3.grow_add hl'
    refine ⟨W4, p, c, l, [.int 0, .int 1, .int r1, .int r2], rfl, rfl, s3.g g4, upd_same, by simp, by simp, fun y W5 hy g5 s5 => ?_⟩
    obtain ⟨y', rfl, y0, y1⟩ : ∃ y' : Int, y = .int y' ∧ 0 ≤ y' ∧ y' ≤ 1000000000 := by
      simp only [List.mem_cons, List.not_mem_nil, or_false] at hy
      rcases hy with e | e | e | e <;> exact ⟨_, e, by omega, by omega⟩
    -- the key: 1 + draw 12
    refine ⟨_, rfl, _, rfl, W5, p, c, 12, rfl, rfl, s5, by decide, by decide, fun k' W6 a6 b6 g6 s6 => ⟨1, k', rfl, rfl, ?_⟩⟩
    have gall : Md [p, c] W' W6 := ((g2.trans g3).trans (g4.s.trans g5)).trans g6
    have md := gall.mut (a := d) (by simp [dp, dc]) hd' bd
    have r' : KReps K W6.B ks kv := KReps.mono (exExt gall.b) r
    refine ⟨d, _, rfl, .inl ⟨ks, Sum.inl (1 + k'), md.1, rfl, ?_, rfl⟩, W6.put d _ md.2, rfl, ?_⟩
    · rw [KReps.len r]; exact Evl.sz_lt (by have := ok.2.1; omega)
    · refine ⟨_, kput kv (1 + k') y', putK ks (Sum.inl (1 + k')) (.int y'), rfl, md_mut (g.trans gall) md.2 hd, o.trans (gall.on.trans (md_put md.2).on), s6.off (md_put md.2) (by simpa using fun z => dp z.symm) (by simpa using fun z => dc z.symm), md.2, upd_same, KReps.put (κ := Int) (α := Int) r' (1 + k') rfl, ?_, ?_⟩
      · obtain ⟨o1, o2, o3⟩ := ok
        have o1' := kput_keys_nodup (k := 1 + k') (v := y') o1
        have o3' : ∀ q ∈ kput kv (1 + k') y', 1 ≤ q.1 ∧ q.1 ≤ 12 ∧ 0 ≤ q.2 ∧ q.2 ≤ 1000000000 := fun q hq => by
          rcases kput_mem hq with z | z
          · exact o3 q z
          · rw [z]; exact ⟨by show 1 ≤ 1 + k'; omega, by show 1 + k' ≤ 12; omega, y0, y1⟩
        refine ⟨o1', ?_, o3'⟩
        have : ((kput kv (1 + k') y').map (·.1)).length ≤ (rng 1 12).length := by
          refine nodup_le o1' fun x hx => ?_
          obtain ⟨q, h1, rfl⟩ := List.mem_map.mp hx
          have := o3' q h1
          exact rng_mem.mpr ⟨this.1, by omega⟩
        rw [List.length_map, rng_len] at this
        exact this
      · exact Nat.le_trans (kput_len _ _ _) (by omega)
  · rintro σ' W' ⟨v, kv, ks, rfl, g, o, s', bd, hd', r, ok, hl⟩
    refine ⟨_, rfl, k _ kv (W'.fix d _ hd') ok ⟨d, ks, rfl, upd_same, hd', KReps.mono (exExt (ex_fix hd' bd)) r⟩ (md_fix g hd' bd hd) ?_⟩
    exact s'.keep rfl rfl (upd_ne dp.symm) (upd_ne dc.symm)
theorem told_get (kv : List (Int × Int)) {n : Int} (h0 : 0 ≤ n) (h1 : n < 15) : atI ((rng 0 15).map (reachF kv)) n = some (reachF kv n) := by
  obtain ⟨j, rfl⟩ : ∃ j : Nat, n = (j : Int) := ⟨n.toNat, by omega⟩
  refine atI_nat ?_
  rw [List.getElem?_map, rng_get (by omega), Int.zero_add]
  rfl
theorem rd_law (h : sp_law K vs H Q E) : t_law K { nx := fun _ H' => Q .non H', rt := Q } (start n_law vs) H := by
  obtain ⟨a, ns, rfl, hS, hl, k⟩ := h
  let W : Wd := ⟨H, H, Ext.refl H⟩
  show t_law K _ [some (.ref a), none, none, none, none, none, none, none, none, none, none] W.H
  refine ⟨_, rfl, W, a, ns, rfl, rfl, hS, hl, fun p c W1 g1 s1 _ _ => ?_⟩
  refine q_for (ε := pur) (K := K) (xs := rng 0 4) (ei_rng1 (n := 4) ev_int (by decide) (by decide)) trivial fun W2 g2 =>
    ⟨fun i σ W' => ∃ v2 v3 v4 v5 v6 v7 v8 v9 v10 : Option V, σ = [some (.ref a), some (.ref p), v2, v3, v4, v5, v6, v7, v8, v9, v10] ∧ On W2 W' ∧ St W' p c,
      ⟨none, none, none, none, none, none, none, none, none, rfl, .refl _, s1.g g2.pure⟩, fun i σ' W' ⟨_, _, _, _, _, _, _, _, _, _, o, _⟩ => o, ?_, ?_⟩
  · rintro i x v σ' W3' W3 hi hx ⟨v2, v3, v4, v5, v6, v7, v8, v9, v10, rfl, o3', s3'⟩ g3 _
    have o3 := o3'.trans g3.on
    have s3 := s3'.g g3
    -- lots = sizes(state)
    refine ⟨_, rfl, W3, p, c, rfl, rfl, s3, fun d kv W4 ok d4 g4 s4 => ?_⟩
    obtain ⟨ok1, ok2, ok3⟩ := ok
    have hl12 : kv.length ≤ 100000 := by omega
    have szc : ∀ q ∈ kv, 0 ≤ q.2 ∧ q.2 ≤ 1000000000 := fun q hq => ⟨(ok3 q hq).2.2.1, (ok3 q hq).2.2.2⟩
    -- kept, due = dict(lots), 0
    refine q_par (ε := pur) (P := fun v W => DictAt K W v (⟨kv⟩ : Dict Int Int)) (R := fun v W => rep K W.B v (0 : Int)) (ed_copy (ev_dvar (K := K) rfl d4).rep) ev_int trivial (fun v W W' g h => h.s g) fun d' v0 W5 g5 d5' r0 => ?_
    have d5 := d4.s g5
    have e0 : v0 = .int 0 := r0
    subst e0
    -- told = [reach(lots, number) for number in range(15)]
    have hreach : ∀ {σ : SS} {W' : Wd} {i j : Nat} {n : Int} {u : V}, σ[i]? = some (some d) → σ[j]? = some (some u) → On W5 W' → rep K W'.B u n → EvR pur K (tCall (sp_reach K) [] E0 (tCons (tVar i) (tCons (tVar j) tNil))) σ W' (reachF kv n) := fun {σ W' i j n u} h1 h2 o r =>
      ev_callP2 (P := fun v W => DictAt K W v (⟨kv⟩ : Dict Int Int)) (P2 := fun v W => rep K W.B v n) (ev_dvar h1 (d5.on o)) (ev_var h2 r) (fun v W W' g h => h.s g)
        fun v v2 W1 _ h1 h2 Q k => ⟨W1, v, kv, n, rfl, by rw [show v2 = _ from h2], h1, szc, hl12, fun W2 g2 => k _ W2 (.of g2) rfl⟩
    refine q_asg (ε := pur) (K := K) (x := (rng 0 15).map (reachF kv)) (ev_lcN (ei_rng1 (n := 15) ev_int (by decide) (by decide)).i (fun n v W' hn g r => hreach rfl rfl g.on r) (by decide)) trivial fun vt W6 g6 rt => ?_
    -- for number in range(15)
    refine q_for (ε := pur) (K := K) (xs := rng 0 15) (ei_rng1 (n := 15) ev_int (by decide) (by decide)) trivial fun W7 g7 =>
      ⟨fun i σ W' => ∃ v7 v8 v9 v10 : Option V, σ = [some (.ref a), some (.ref p), some v, some d, some d', some (.int (reachF kv i)), some vt, v7, v8, v9, v10] ∧ Grow W7 W',
        ⟨v7, v8, v9, v10, by rw [show reachF kv ((0 : Nat) : Int) = 0 from reach_zero kv fun q hq => (ok3 q hq).1]; rfl, .refl _ _⟩, fun i σ' W' ⟨_, _, _, _, _, g⟩ => g.on, ?_, ?_⟩
    · rintro i n vn σ' W8' W8 hi' hn ⟨v7, v8, v9, v10, rfl, g8'⟩ g8'' rn
      rw [rng_len] at hi'
      rw [rng_get hi', Int.zero_add] at hn
      cases hn
      have g8 : Grow W7 W8 := g8'.trans g8''
      have rt8 : rep K W8.B vt ((rng 0 15).map (reachF kv)) := rep_g g8 (rep_s g7 rt)
      have d8 : DictAt K W8 d' (⟨kv⟩ : Dict Int Int) := (((d5'.s g6).s g7).g g8)
      have tg : EvR pur K (tOp (rIxL K) (tVar 6) (tVar 7)) [some (.ref a), some (.ref p), some v, some d, some d', some (.int (reachF kv i)), some vt, some vn, v8, v9, v10] W8 (reachF kv i) :=
        ev_op (ev_var rfl rt8) (ev_var rfl rn) (ro_ixL (told_get kv (by omega) (by omega)))
      refine q_when (ε := pur) (b := false) ((et_or (et_B (ev_cb2 tg ev_raw (rc_isi (b := false) ty_int (by decide +kernel)))) fun _ => et_or (et_not (et_B (ev_cb2 tg ev_raw (rc_isi (b := true) ty_int (by decide +kernel))))) fun _ => et_test (ev_op tg (ev_var rfl (show rep K W8.B (.int (reachF kv i)) (reachF kv i) from rfl)) ro_neI)).is (by simp)) trivial (fun h => by cases h) fun _ W9 g9 => ?_
      obtain ⟨ad, ks, rfl, hB, hH, hr⟩ := d8.s g9
      refine s_asg (ε := pur) (K := K) (x := reachF kv i + sumOver kv i) (ev_op (ev_var rfl (show rep K W9.B (.int (reachF kv i)) (reachF kv i) from rfl)) (ev_cb1 (ev_lock hH fun WL lk => ev_lcPt (K := K) (p := fun q => decide ((i : Int) < q.1)) (f := fun q => q.2) (ei_items (ev_rvar rfl) lk.lk (KReps.mono (exExt lk.b) hr))
        (fun x v u W' hx g r1 r2 => et_test (ev_op (ev_var rfl r1) (ev_var rfl (rep_s g (rex lk.b (rep_s g9 rn)))) ro_B0))
        (fun x v u W' hx hp g r1 r2 => ev_var rfl r2) hl12) rc_sum) ro_I0) trivial fun v5 W10 g10 r5 => ?_
      have e5 : v5 = .int (reachF kv i + sumOver kv i) := r5
      subst e5
      refine ⟨W10, rfl, some vn, v8, v9, v10, ?_, (g8.trans g9.pure).trans g10.pure⟩
      rw [← reach_step i (by omega) kv fun q hq => (ok3 q hq).1]
      rfl
    · rintro σ' W8 ⟨v7, v8, v9, v10, rfl, g8⟩
      have rt8 : rep K W8.B vt ((rng 0 15).map (reachF kv)) := rep_g g8 (rep_s g7 rt)
      have d8' : DictAt K W8 d' (⟨kv⟩ : Dict Int Int) := (((d5'.s g6).s g7).g g8)
      have d8 : DictAt K W8 d (⟨kv⟩ : Dict Int Int) := (((d5.s g6).s g7).g g8)
      have tg : ∀ {σ : SS} {W' : Wd} {i : Nat} {te : TE} {n : Int}, σ[i]? = some (some vt) → On W8 W' → EvR pur K te σ W' n → 0 ≤ n → n < 15 → EvR pur K (tOp (rIxL K) (tVar i) te) σ W' (reachF kv n) := fun h1 o h2 h3 h4 =>
        ev_op (ev_var h1 (rep_on o rt8)) h2 (ro_ixL (told_get kv h3 h4))
      -- reach(many=3, sizes=lots) != told[3] or list(lots.items()) != list(kept.items())
      refine q_when (ε := pur) (b := false) ((et_or (a := false) (et_test (K := K) ?_) fun _ => et_test (ev_op (ev_listItems (ev_dvar rfl d8)) (ev_listItems (ev_dvar rfl d8')) (ro_neT (by decide)))).is (by simp)) trivial (fun h => by cases h) fun _ W9 g9 => ?_
      · refine (ev_op (x := reachF kv 3) (EvP.toR ?_) (tg rfl (.refl _) ev_int (by decide) (by decide)) ro_neI).is (by simp)
        intro W1 g1 Q k
        exact ⟨_, rfl, rfl, W1, d, kv, 3, rfl, rfl, d8.s g1, szc, hl12, fun W2 g2 => k _ W2 (g1.rf.and g2) rfl⟩
      -- steps
      refine q_asg (ε := pur) (K := K) (x := stepsF kv) (ev_lcN (ei_rng1 (n := 14) ev_int (by decide) (by decide)).i (fun n v W' hn g r => ?_) (by decide)) trivial fun vs10 W10 g10 r10 => ?_
      · have := rng_mem.mp hn
        exact ev_op (tg rfl (g9.on.trans g.on) (ev_op (ev_var rfl r) ev_int ro_I0) (by omega) (by omega)) (tg rfl (g9.on.trans g.on) (ev_var rfl r) (by omega) (by omega)) ro_I0
      obtain ⟨ad, ks, rfl, hB, hH, hr⟩ := (d8'.s g9).s g10
      refine s_when (ε := pur) (b := false) ((et_or (a := false) (et_test ((ev_op (ev_var rfl r10) (ev_revL (ev_cb1 (ev_var rfl r10) (rc_sortedI (ys := (stepsF kv).reverse) (List.reverse_perm _) (steps_fall kv (fun q hq => (ok3 q hq).1) fun q hq => (ok3 q hq).2.2.1)))) (ro_neT (by decide))).is (by simp))) fun _ => et_test (ev_op (tg rfl (g9.on.trans g10.on) ev_int (by decide) (by decide)) (ev_cb1 (ev_lock hH fun WL lk => ev_lcP (K := K) (f := fun q => q.1 * q.2) (ei_items (ev_rvar rfl) lk.lk (KReps.mono (exExt lk.b) hr))
        (fun x v u W' hx g r1 r2 => ev_op (ev_var rfl r1) (ev_var rfl r2) (ro_I (by have := ok3 x hx; exact .inl ⟨by omega, by omega⟩))) hl12) rc_sum) ro_neI)).is (by rw [reach_all kv fun q hq => (ok3 q hq).2.1]; simp)) trivial (fun h => by cases h) fun _ W11 g11 => ?_
      refine ⟨W11, rfl, _, _, _, _, _, _, _, _, _, rfl, ?_, ?_⟩
      · exact o3.trans (g4.on.trans (g5.on.trans (g6.on.trans (g7.on.trans (g8.on.trans (g9.on.trans (g10.on.trans g11.on)))))))
      · exact (((((((s4.g g5.pure).g g6.pure).g g7.pure).g g8).g g9.pure).g g10.pure).g g11.pure)
  · rintro σ' W3 ⟨v2, v3, v4, v5, v6, v7, v8, v9, v10, rfl, o3, s3⟩
    refine s_ret (ε := pur) (K := K) (x := true) ((ev_op (x := (0 : Int)) (EvP.toR (ev_callP2 (P := fun v W => DictAt K W v (⟨[]⟩ : Dict Int Int)) (P2 := fun v W => rep K W.B v (5 : Int)) ed_new ev_int (fun v W W' g h => h.s g)
        fun v v2 W1 _ h1 h2 Q k => ⟨W1, v, [], 5, rfl, by rw [show v2 = _ from h2], h1, by simp, by simp, fun W2 g2 => k _ W2 (.of g2) rfl⟩)) ev_int ro_eqI).is (by simp)) trivial fun v W4 _ r => ?_
    rw [show v = _ from r]
    exact k _
end
end B
namespace B
open PySem L2 PyProof.Rows PySem.Spec
open Evl (Ex)
def top (i : Nat) : Stmt := PySem.Challenge.pw_bygone_k20_lost_together.main.body.getD i (.Pass ⟨0, 0, 0, 0⟩)
/-! reach -/
abbrev s_reach : Stmt := top 1
theorem sc_reach : FnScope n_reach ["sizes", "many"] (defScope s_reach) := ⟨rfl, rfl, rfl, by decide +kernel, rfl, by decide +kernel, by decide +kernel⟩
/-! _law_begun -/
abbrev s__law_begun : Stmt := top 3
theorem sc__law_begun : FnScope n__law_begun ["_law_script"] (defScope s__law_begun) := ⟨rfl, rfl, rfl, by decide +kernel, rfl, by decide +kernel, by decide +kernel⟩
/-! _law_draw -/
abbrev s__law_draw : Stmt := top 4
theorem sc__law_draw : FnScope n__law_draw ["_law_state", "_law_number"] (defScope s__law_draw) := ⟨rfl, rfl, rfl, by decide +kernel, rfl, by decide +kernel, by decide +kernel⟩
/-! _law_pick -/
abbrev s__law_pick : Stmt := top 5
theorem sc__law_pick : FnScope n__law_pick ["_law_state", "_law_some"] (defScope s__law_pick) := ⟨rfl, rfl, rfl, by decide +kernel, rfl, by decide +kernel, by decide +kernel⟩
/-! _law_sizes -/
abbrev s__law_sizes : Stmt := top 6
theorem sc__law_sizes : FnScope n__law_sizes ["_law_state"] (defScope s__law_sizes) := ⟨rfl, rfl, rfl, by decide +kernel, rfl, by decide +kernel, by decide +kernel⟩
/-! law -/
abbrev s_law : Stmt := top 7
theorem sc_law : FnScope n_law ["_law_script"] (defScope s_law) := ⟨rfl, rfl, rfl, by decide +kernel, rfl, by decide +kernel, by decide +kernel⟩

structure Tx (K : Fg) (mg : Str → Option Value) where
  m_sum : mg "sum" = none
  m_min : mg "min" = none
  m_abs : mg "abs" = none
  m_len : mg "len" = none
  m_range : mg "range" = none
  m_dict : mg "dict" = none
  m_isinstance : mg "isinstance" = none
  m_bool : mg "bool" = none
  m_int : mg "int" = none
  m_list : mg "list" = none
  m_sorted : mg "sorted" = none
  f_reach : Addr
  d_reach : FuncData
  F_reach : Fun K "reach" "reach" s_reach f_reach d_reach
  b_reach : Binds K d_reach ["sizes", "many"] []
  g_reach : mg "reach" = some (.ref f_reach)
  f__law_begun : Addr
  d__law_begun : FuncData
  F__law_begun : Fun K "_law_begun" "_law_begun" s__law_begun f__law_begun d__law_begun
  b__law_begun : Binds K d__law_begun ["_law_script"] []
  g__law_begun : mg "_law_begun" = some (.ref f__law_begun)
  f__law_draw : Addr
  d__law_draw : FuncData
  F__law_draw : Fun K "_law_draw" "_law_draw" s__law_draw f__law_draw d__law_draw
  b__law_draw : Binds K d__law_draw ["_law_state", "_law_number"] []
  g__law_draw : mg "_law_draw" = some (.ref f__law_draw)
  f__law_pick : Addr
  d__law_pick : FuncData
  F__law_pick : Fun K "_law_pick" "_law_pick" s__law_pick f__law_pick d__law_pick
  b__law_pick : Binds K d__law_pick ["_law_state", "_law_some"] []
  g__law_pick : mg "_law_pick" = some (.ref f__law_pick)
  f__law_sizes : Addr
  d__law_sizes : FuncData
  F__law_sizes : Fun K "_law_sizes" "_law_sizes" s__law_sizes f__law_sizes d__law_sizes
  b__law_sizes : Binds K d__law_sizes ["_law_state"] []
  g__law_sizes : mg "_law_sizes" = some (.ref f__law_sizes)
  f_law : Addr
  d_law : FuncData
  F_law : Fun K "law" "law" s_law f_law d_law
  kb_reach_many_sizes : KwB K d_reach ["sizes", "many"] ["many", "sizes"] [1, 0]

section
variable {P : Program} {w : World} {K : Fg} {mg : Str → Option Value} {base : Heap}
theorem der_reach (T : Tx K mg) {cdv : Value} {A : Around} {outer : List Env} {s : Shared} {H : Hp} {E : XK} (hr : Room 0 (A.deeper (envOfC "reach" (defScope s_reach) s.heap.objs.size T.f_reach cdv))) :
    PSs (cxOf CX0 P w K mg base n_reach "reach" (defScope s_reach) T.f_reach cdv A outer s H E).nox (defBody s_reach) (t_reach K) :=
  have nd := sc_reach.nd
  (pss_one (ps_ret (pe_callB (cr_sum rfl) (by rfl) T.m_sum (by decide +kernel) (pa_cons (pe_lock (pe_lc (own := [("size", 2), ("times", 3)]) rfl nd (pi_items (pv 0)) (blkOk_by (own := [("size", 2), ("times", 3)]) (N := n_reach) (sc := defScope s_reach) (by decide +kernel)) (fun _ _ _ _ _ => (pg_tup rfl (pgs_cons (pg_name (i := 2) nd rfl (by first | exact Or.inl rfl | exact Or.inr rfl)) (pgs_cons (pg_name (i := 3) nd rfl (by first | exact Or.inl rfl | exact Or.inr rfl)) pgs_nil)))) (fun _ _ _ _ _ => pts_nil) (fun _ _ _ _ _ => (pe_op op_mul (pv 3) (pe_callB (cr_min2 rfl) (by rfl) T.m_min (by decide +kernel) (pa_cons (pv 2) (pa_cons (pv 1) pa_nil))))))) pa_nil))))
theorem ok_reach (T : Tx K mg) : FnOk P w K mg base CX0 1 T.f_reach T.d_reach ["sizes", "many"] (sp_reach K) :=
  T.F_reach.ok sc_reach (fun vs H Q E h => len_reach h) (fun cdv A outer s H vs Q E hr h => ⟨t_reach K, der_reach T hr, rd_reach h⟩)
theorem der__law_begun (T : Tx K mg) {cdv : Value} {A : Around} {outer : List Env} {s : Shared} {H : Hp} {E : XK} (hr : Room 0 (A.deeper (envOfC "_law_begun" (defScope s__law_begun) s.heap.objs.size T.f__law_begun cdv))) :
    PSs (cxOf CX0 P w K mg base n__law_begun "_law_begun" (defScope s__law_begun) T.f__law_begun cdv A outer s H E).nox (defBody s__law_begun) (t__law_begun K) :=
  have nd := sc__law_begun.nd
  (pss_cons (ps_setLc (i := 1) (own := [("_law_cell", 2)]) rfl nd rfl rfl (sw_true rfl rfl rfl (by decide +kernel)) (pi_list (pv 0)) (blkOk_by (own := [("_law_cell", 2)]) (N := n__law_begun) (sc := defScope s__law_begun) (by decide +kernel)) (fun _ _ _ _ _ => (pg_name (i := 2) nd rfl (by first | exact Or.inl rfl | exact Or.inr rfl))) (fun _ _ _ _ _ => pts_nil) (fun _ _ _ _ _ => (pe_callB cr_abs (by rfl) T.m_abs (by decide +kernel) (pa_cons (pv 2) pa_nil))))
  (pss_cons (ps_if (pt_cmpR (op_eqT hr.units) (pv 1) (pe_lst pa_nil) (nomark _)) (pss_one (ps_set (i := 1) nd rfl (Or.inl rfl) (pe_lst (pa_cons pe_int pa_nil)))) pss_nil)
  (pss_one (ps_ret (pe_lst (pa_cons (pv 1) (pa_cons pe_int (pa_cons pe_int pa_nil))))))))
theorem ok__law_begun (T : Tx K mg) : FnOk P w K mg base CX0 1 T.f__law_begun T.d__law_begun ["_law_script"] (sp__law_begun K) :=
  T.F__law_begun.ok sc__law_begun (fun vs H Q E h => len__law_begun h) (fun cdv A outer s H vs Q E hr h => ⟨t__law_begun K, der__law_begun T hr, rd__law_begun h⟩)
theorem der__law_draw (T : Tx K mg) {cdv : Value} {A : Around} {outer : List Env} {s : Shared} {H : Hp} {E : XK} (hr : Room 0 (A.deeper (envOfC "_law_draw" (defScope s__law_draw) s.heap.objs.size T.f__law_draw cdv))) :
    PSs (cxOf CX0 P w K mg base n__law_draw "_law_draw" (defScope s__law_draw) T.f__law_draw cdv A outer s H E).nox (defBody s__law_draw) (t__law_draw K) :=
  have nd := sc__law_draw.nd
  (pss_cons (ps_set (i := 2) nd rfl (Or.inl rfl) (pe_ix ix_list (pv 0) pe_int (fun _ _ => rfl)))
  (pss_cons (ps_set (i := 3) nd rfl (Or.inl rfl) (pe_op op_mod (pe_ix ix_list (pv 0) pe_int (fun _ _ => rfl)) (pe_callB cr_len (by rfl) T.m_len (by decide +kernel) (pa_cons (pv 2) pa_nil))))
  (pss_cons (ps_set (i := 4) nd rfl (Or.inl rfl) (pe_ix ix_list (pv 2) (pv 3) (fun _ _ => rfl)))
  (pss_cons (ps_if (pt_cmpR op_ge (pv 4) (pe_op op_pow pe_int pe_int) (nomark _)) (pss_cons (ps_asg (pe_op op_fdiv (pv 4) (pv 1)) (pg_sub (pv 2) (pv 3) set_list))
  (pss_one (ps_ret (pe_op op_mod (pv 4) (pv 1))))) pss_nil)
  (pss_cons (ps_asg (pe_op op_add (pe_ix ix_list (pv 0) pe_int (fun _ _ => rfl)) pe_int) (pg_sub (pv 0) pe_int set_list))
  (pss_cons (ps_asg (pe_op op_mod (pe_op op_add (pe_op op_add (pe_op op_mul (pe_ix ix_list (pv 0) pe_int (fun _ _ => rfl)) pe_int) (pv 4)) pe_int) pe_int) (pg_sub (pv 0) pe_int set_list))
  (pss_one (ps_ret (pe_op op_mod (pe_op op_fdiv (pe_op op_mod (pe_op op_mul (pe_ix ix_list (pv 0) pe_int (fun _ _ => rfl)) (pe_ix ix_list (pv 0) pe_int (fun _ _ => rfl))) pe_int) pe_int) (pv 1))))))))))
theorem ok__law_draw (T : Tx K mg) : FnOk P w K mg base CX0 1 T.f__law_draw T.d__law_draw ["_law_state", "_law_number"] (sp__law_draw K) :=
  T.F__law_draw.ok sc__law_draw (fun vs H Q E h => len__law_draw h) (fun cdv A outer s H vs Q E hr h => ⟨t__law_draw K, der__law_draw T hr, rd__law_draw h⟩)
theorem der__law_pick (T : Tx K mg) {cdv : Value} {A : Around} {outer : List Env} {s : Shared} {H : Hp} {E : XK} (hr : Room 1 (A.deeper (envOfC "_law_pick" (defScope s__law_pick) s.heap.objs.size T.f__law_pick cdv))) :
    PSs (cxOf CX0 P w K mg base n__law_pick "_law_pick" (defScope s__law_pick) T.f__law_pick cdv A outer s H E).nox (defBody s__law_pick) (t__law_pick K) :=
  have nd := sc__law_pick.nd
  (pss_one (ps_ret (pe_ix ix_list (pv 1) (pe_call (ok__law_draw T) (hr.mono (by decide)) (by rfl) T.g__law_draw T.F__law_draw.kp T.b__law_draw .nil pass0 (pa_cons (pv 0) (pa_cons (pe_callB cr_len (by rfl) T.m_len (by decide +kernel) (pa_cons (pv 1) pa_nil)) pa_nil))) (fun _ _ => rfl))))
theorem ok__law_pick (T : Tx K mg) : FnOk P w K mg base CX0 2 T.f__law_pick T.d__law_pick ["_law_state", "_law_some"] (sp__law_pick K) :=
  T.F__law_pick.ok sc__law_pick (fun vs H Q E h => len__law_pick h) (fun cdv A outer s H vs Q E hr h => ⟨t__law_pick K, der__law_pick T hr, rd__law_pick h⟩)
theorem der__law_sizes (T : Tx K mg) {cdv : Value} {A : Around} {outer : List Env} {s : Shared} {H : Hp} {E : XK} (hr : Room 2 (A.deeper (envOfC "_law_sizes" (defScope s__law_sizes) s.heap.objs.size T.f__law_sizes cdv))) :
    PSs (cxOf CX0 P w K mg base n__law_sizes "_law_sizes" (defScope s__law_sizes) T.f__law_sizes cdv A outer s H E).nox (defBody s__law_sizes) (t__law_sizes K) :=
  have nd := sc__law_sizes.nd
  (pss_cons (ps_set (i := 1) nd rfl (Or.inl rfl) pe_dnewK)
  (pss_cons (ps_for PassesOwn.never rfl (pi_range1 rfl T.m_range (pa_cons (pe_call (ok__law_draw T) (hr.mono (by decide)) (by rfl) T.g__law_draw T.F__law_draw.kp T.b__law_draw .nil pass0 (pa_cons (pv 0) (pa_cons pe_int pa_nil))) pa_nil)) (pg_name (i := 2) nd rfl (by first | exact Or.inl rfl | exact Or.inr rfl))
  (pss_one (ps_dput (hu_of hr) (pv 1) (pe_op op_add pe_int (pe_call (ok__law_draw T) (hr.mono (by decide)) (by rfl) T.g__law_draw T.F__law_draw.kp T.b__law_draw .nil pass0 (pa_cons (pv 0) (pa_cons pe_int pa_nil)))) (pe_call (ok__law_pick T) (hr.mono (by decide)) (by rfl) T.g__law_pick T.F__law_pick.kp T.b__law_pick .nil pass0 (pa_cons (pv 0) (pa_cons (pe_lst (pa_cons pe_int (pa_cons pe_int (pa_cons (pe_call (ok__law_draw T) (hr.mono (by decide)) (by rfl) T.g__law_draw T.F__law_draw.kp T.b__law_draw .nil pass0 (pa_cons (pv 0) (pa_cons pe_int pa_nil))) (pa_cons (pe_call (ok__law_draw T) (hr.mono (by decide)) (by rfl) T.g__law_draw T.F__law_draw.kp T.b__law_draw .nil pass0 (pa_cons (pv 0) (pa_cons (pe_op op_add (pe_op op_pow pe_int pe_int) pe_int) pa_nil))) pa_nil))))) pa_nil))) rfl)))
  (pss_one (ps_ret (pv 1)))))
theorem ok__law_sizes (T : Tx K mg) : FnOk P w K mg base CX0 3 T.f__law_sizes T.d__law_sizes ["_law_state"] (sp__law_sizes K) :=
  T.F__law_sizes.ok sc__law_sizes (fun vs H Q E h => len__law_sizes h) (fun cdv A outer s H vs Q E hr h => ⟨t__law_sizes K, der__law_sizes T hr, rd__law_sizes h⟩)
theorem der_law (T : Tx K mg) {cdv : Value} {A : Around} {outer : List Env} {s : Shared} {H : Hp} {E : XK} (hr : Room 3 (A.deeper (envOfC "law" (defScope s_law) s.heap.objs.size T.f_law cdv))) :
    PSs (cxOf CX0 P w K mg base n_law "law" (defScope s_law) T.f_law cdv A outer s H E).nox (defBody s_law) (t_law K) :=
  have nd := sc_law.nd
  (pss_cons (ps_set (i := 1) nd rfl (Or.inl rfl) (pe_call (ok__law_begun T) (hr.mono (by decide)) (by rfl) T.g__law_begun T.F__law_begun.kp T.b__law_begun .nil pass0 (pa_cons (pv 0) pa_nil)))
  (pss_cons (ps_for PassesOwn.never rfl (pi_range1 rfl T.m_range (pa_cons pe_int pa_nil)) (pg_name (i := 2) nd rfl (by first | exact Or.inl rfl | exact Or.inr rfl))
  (pss_cons (ps_set (i := 3) nd rfl (Or.inr rfl) (pe_call (ok__law_sizes T) (hr.mono (by decide)) (by rfl) T.g__law_sizes T.F__law_sizes.kp T.b__law_sizes .nil pass0 (pa_cons (pv 1) pa_nil)))
  (pss_cons (ps_par (i := 4) (j := 5) rfl nd rfl rfl (by decide) rfl rfl (pa_cons (pe_callTy cr_dictC (by rfl) T.m_dict (by decide +kernel) (pa_cons (pv 3) pa_nil)) (pa_cons pe_int pa_nil)) (by rfl))
  (pss_cons (ps_set (i := 6) nd rfl (Or.inr rfl) (pe_lc (own := [("_law_number", 7)]) rfl nd (pi_range1 rfl T.m_range (pa_cons pe_int pa_nil)) (blkOk_by (own := [("_law_number", 7)]) (N := n_law) (sc := defScope s_law) (by decide +kernel)) (fun _ _ _ _ _ => (pg_name (i := 7) nd rfl (by first | exact Or.inl rfl | exact Or.inr rfl))) (fun _ _ _ _ _ => pts_nil) (fun _ _ _ _ _ => (pe_call (ok_reach T) (hr.mono (by decide)) (by rfl) T.g_reach T.F_reach.kp T.b_reach .nil pass0 (pa_cons (pv 3) (pa_cons (pv 7) pa_nil))))))
  (pss_cons (ps_for PassesOwn.never rfl (pi_range1 rfl T.m_range (pa_cons pe_int pa_nil)) (pg_name (i := 7) nd rfl (by first | exact Or.inl rfl | exact Or.inr rfl))
  (pss_cons (ps_if (PW.pt (pw_or (pt_val (pe_callB call_isi (by rfl) T.m_isinstance (by decide +kernel) (pa_cons (pe_ix ix_list (pv 6) (pv 7) (fun _ _ => rfl)) (pa_cons (pe_bltn (by rfl) T.m_bool (by decide +kernel) rfl) pa_nil)))) (pw_or (pt_not (pt_val (pe_callB call_isi (by rfl) T.m_isinstance (by decide +kernel) (pa_cons (pe_ix ix_list (pv 6) (pv 7) (fun _ _ => rfl)) (pa_cons (pe_bltn (by rfl) T.m_int (by decide +kernel) rfl) pa_nil))))) (pw_or1 (pt_cmpR op_ne (pe_ix ix_list (pv 6) (pv 7) (fun _ _ => rfl)) (pv 5) (nomark _)))))) (pss_one (ps_ret pe_bl)) pss_nil)
  (pss_one (ps_set (i := 5) nd rfl (Or.inl rfl) (pe_op op_add (pv 5) (pe_callB (cr_sum rfl) (by rfl) T.m_sum (by decide +kernel) (pa_cons (pe_lock (pe_lc (own := [("_law_size", 8), ("_law_times", 9)]) rfl nd (pi_items (pv 4)) (blkOk_by (own := [("_law_size", 8), ("_law_times", 9)]) (N := n_law) (sc := defScope s_law) (by decide +kernel)) (fun _ _ _ _ _ => (pg_tup rfl (pgs_cons (pg_name (i := 8) nd rfl (by first | exact Or.inl rfl | exact Or.inr rfl)) (pgs_cons (pg_name (i := 9) nd rfl (by first | exact Or.inl rfl | exact Or.inr rfl)) pgs_nil)))) (fun _ _ _ _ _ => (pts_one (pt_cmpR op_gt (pv 8) (pv 7) (nomark _)))) (fun _ _ _ _ _ => (pv 9)))) pa_nil)))))))
  (pss_cons (ps_if (PW.pt (pw_or (pt_cmpR op_ne (pe_callKw (ok_reach T) (hr.mono (by decide)) (by rfl) T.g_reach T.F_reach.kp T.kb_reach_many_sizes pass0 (pk_cons pe_int (pk_cons (pv 3) pk_nil))) (pe_ix ix_list (pv 6) pe_int (fun _ _ => rfl)) (nomark _)) (pw_or1 (pt_cmpR (op_neT hr.units) (LiI.pe_listItems rfl (pv 3) (by rfl) T.m_list (by decide +kernel)) (LiI.pe_listItems rfl (pv 4) (by rfl) T.m_list (by decide +kernel)) (nomark _))))) (pss_one (ps_ret pe_bl)) pss_nil)
  (pss_cons (ps_setLc (i := 10) (own := [("_law_number", 7)]) rfl nd rfl rfl (sw_true rfl rfl rfl (by decide +kernel)) (pi_range1 rfl T.m_range (pa_cons pe_int pa_nil)) (blkOk_by (own := [("_law_number", 7)]) (N := n_law) (sc := defScope s_law) (by decide +kernel)) (fun _ _ _ _ _ => (pg_name (i := 7) nd rfl (by first | exact Or.inl rfl | exact Or.inr rfl))) (fun _ _ _ _ _ => pts_nil) (fun _ _ _ _ _ => (pe_op op_sub (pe_ix ix_list (pv 6) (pe_op op_add (pv 7) pe_int) (fun _ _ => rfl)) (pe_ix ix_list (pv 6) (pv 7) (fun _ _ => rfl)))))
  (pss_one (ps_if (PW.pt (pw_or (pt_cmpR (op_neT hr.units) (pv 10) (pe_revL (pe_callB cr_sortedI (by rfl) T.m_sorted (by decide +kernel) (pa_cons (pv 10) pa_nil))) (nomark _)) (pw_or1 (pt_cmpR op_ne (pe_ix ix_list (pv 6) pe_int (fun _ _ => rfl)) (pe_callB (cr_sum rfl) (by rfl) T.m_sum (by decide +kernel) (pa_cons (pe_lock (pe_lc (own := [("_law_size", 8), ("_law_times", 9)]) rfl nd (pi_items (pv 4)) (blkOk_by (own := [("_law_size", 8), ("_law_times", 9)]) (N := n_law) (sc := defScope s_law) (by decide +kernel)) (fun _ _ _ _ _ => (pg_tup rfl (pgs_cons (pg_name (i := 8) nd rfl (by first | exact Or.inl rfl | exact Or.inr rfl)) (pgs_cons (pg_name (i := 9) nd rfl (by first | exact Or.inl rfl | exact Or.inr rfl)) pgs_nil)))) (fun _ _ _ _ _ => pts_nil) (fun _ _ _ _ _ => (pe_op op_mul (pv 8) (pv 9))))) pa_nil)) (nomark _))))) (pss_one (ps_ret pe_bl)) pss_nil)))))))))
  (pss_one (ps_ret (pe_cmpR op_eq (pe_call (ok_reach T) (hr.mono (by decide)) (by rfl) T.g_reach T.F_reach.kp T.b_reach .nil pass0 (pa_cons pe_dnewK (pa_cons pe_int pa_nil))) pe_int (nomark _))))))
theorem ok_law (T : Tx K mg) : FnOk P w K mg base CX0 4 T.f_law T.d_law ["_law_script"] (sp_law K) :=
  T.F_law.ok sc_law (fun vs H Q E h => len_law h) (fun cdv A outer s H vs Q E hr h => ⟨t_law K, der_law T hr, rd_law h⟩)

end

theorem all_mk {l : PySem.W.OpenLaw} {w : World} {K : Fg} {h : Heap} {mg : Str → Option Value} {fa f_reach f__law_begun f__law_draw f__law_pick f__law_sizes f_law : Addr} (X : K.In h) (G : h.Ns mainGlobals mg) (hfa : mg "law" = some (.ref fa))
    {od_reach an_reach od__law_begun an__law_begun od__law_draw an__law_draw od__law_pick an__law_pick od__law_sizes an__law_sizes od_law an_law : Option Addr} {sl_reach sl__law_begun sl__law_draw sl__law_pick sl__law_sizes sl_law : Array (Option Value)} {oc_reach kV_reach dc_reach pm_reach cd_reach ct_reach oc__law_begun kV__law_begun dc__law_begun pm__law_begun cd__law_begun ct__law_begun oc__law_draw kV__law_draw dc__law_draw pm__law_draw cd__law_draw ct__law_draw oc__law_pick kV__law_pick dc__law_pick pm__law_pick cd__law_pick ct__law_pick oc__law_sizes kV__law_sizes dc__law_sizes pm__law_sizes cd__law_sizes ct__law_sizes oc_law kV_law dc_law pm_law cd_law ct_law : Value}
    (z_sum : PySem.W.nsIn K mainGlobals "sum" = some none)
    (z_min : PySem.W.nsIn K mainGlobals "min" = some none)
    (z_abs : PySem.W.nsIn K mainGlobals "abs" = some none)
    (z_len : PySem.W.nsIn K mainGlobals "len" = some none)
    (z_range : PySem.W.nsIn K mainGlobals "range" = some none)
    (z_dict : PySem.W.nsIn K mainGlobals "dict" = some none)
    (z_isinstance : PySem.W.nsIn K mainGlobals "isinstance" = some none)
    (z_bool : PySem.W.nsIn K mainGlobals "bool" = some none)
    (z_int : PySem.W.nsIn K mainGlobals "int" = some none)
    (z_list : PySem.W.nsIn K mainGlobals "list" = some none)
    (z_sorted : PySem.W.nsIn K mainGlobals "sorted" = some none)
    (a_reach : PySem.W.nsIn K mainGlobals "reach" = some (some (.ref f_reach)))
    (l_reach : K.lookup f_reach = some ⟨oc_reach, od_reach, .func (PySem.W.fnOf "reach" "reach" (defArgs s_reach) (defBody s_reach) (defScope s_reach) .none kV_reach dc_reach pm_reach an_reach cd_reach ct_reach), sl_reach⟩)
    (c_reach : PySem.W.codeIn K cd_reach "reach" = true)
    (k_reach : PySem.W.keepIn K (.ref f_reach) = true)
    (a__law_begun : PySem.W.nsIn K mainGlobals "_law_begun" = some (some (.ref f__law_begun)))
    (l__law_begun : K.lookup f__law_begun = some ⟨oc__law_begun, od__law_begun, .func (PySem.W.fnOf "_law_begun" "_law_begun" (defArgs s__law_begun) (defBody s__law_begun) (defScope s__law_begun) .none kV__law_begun dc__law_begun pm__law_begun an__law_begun cd__law_begun ct__law_begun), sl__law_begun⟩)
    (c__law_begun : PySem.W.codeIn K cd__law_begun "_law_begun" = true)
    (k__law_begun : PySem.W.keepIn K (.ref f__law_begun) = true)
    (a__law_draw : PySem.W.nsIn K mainGlobals "_law_draw" = some (some (.ref f__law_draw)))
    (l__law_draw : K.lookup f__law_draw = some ⟨oc__law_draw, od__law_draw, .func (PySem.W.fnOf "_law_draw" "_law_draw" (defArgs s__law_draw) (defBody s__law_draw) (defScope s__law_draw) .none kV__law_draw dc__law_draw pm__law_draw an__law_draw cd__law_draw ct__law_draw), sl__law_draw⟩)
    (c__law_draw : PySem.W.codeIn K cd__law_draw "_law_draw" = true)
    (k__law_draw : PySem.W.keepIn K (.ref f__law_draw) = true)
    (a__law_pick : PySem.W.nsIn K mainGlobals "_law_pick" = some (some (.ref f__law_pick)))
    (l__law_pick : K.lookup f__law_pick = some ⟨oc__law_pick, od__law_pick, .func (PySem.W.fnOf "_law_pick" "_law_pick" (defArgs s__law_pick) (defBody s__law_pick) (defScope s__law_pick) .none kV__law_pick dc__law_pick pm__law_pick an__law_pick cd__law_pick ct__law_pick), sl__law_pick⟩)
    (c__law_pick : PySem.W.codeIn K cd__law_pick "_law_pick" = true)
    (k__law_pick : PySem.W.keepIn K (.ref f__law_pick) = true)
    (a__law_sizes : PySem.W.nsIn K mainGlobals "_law_sizes" = some (some (.ref f__law_sizes)))
    (l__law_sizes : K.lookup f__law_sizes = some ⟨oc__law_sizes, od__law_sizes, .func (PySem.W.fnOf "_law_sizes" "_law_sizes" (defArgs s__law_sizes) (defBody s__law_sizes) (defScope s__law_sizes) .none kV__law_sizes dc__law_sizes pm__law_sizes an__law_sizes cd__law_sizes ct__law_sizes), sl__law_sizes⟩)
    (c__law_sizes : PySem.W.codeIn K cd__law_sizes "_law_sizes" = true)
    (k__law_sizes : PySem.W.keepIn K (.ref f__law_sizes) = true)
    (a_law : PySem.W.nsIn K mainGlobals "law" = some (some (.ref f_law)))
    (l_law : K.lookup f_law = some ⟨oc_law, od_law, .func (PySem.W.fnOf "law" "law" (defArgs s_law) (defBody s_law) (defScope s_law) .none kV_law dc_law pm_law an_law cd_law ct_law), sl_law⟩)
    (c_law : PySem.W.codeIn K cd_law "law" = true)
    (k_law : PySem.W.keepIn K (.ref f_law) = true) :
    ∃ fd : FuncData, (∀ (s : Shared) (v : Value), BindsTo s fd ⟨[v], []⟩ [("_law_script", v)]) ∧ ∀ base : Heap, K.In base → base.Ns mainGlobals mg → FnOk l.prog w K mg base CX0 4 fa fd ["_law_script"] (sp_law K) := by
  have e := hfa.symm.trans (PySem.W.mg_of X G a_law)
  cases e
  have F_reach := fun_mk (st := s_reach) l_reach c_reach k_reach
  have F__law_begun := fun_mk (st := s__law_begun) l__law_begun c__law_begun k__law_begun
  have F__law_draw := fun_mk (st := s__law_draw) l__law_draw c__law_draw k__law_draw
  have F__law_pick := fun_mk (st := s__law_pick) l__law_pick c__law_pick k__law_pick
  have F__law_sizes := fun_mk (st := s__law_sizes) l__law_sizes c__law_sizes k__law_sizes
  have F_law := fun_mk (st := s_law) l_law c_law k_law
  let T : Tx K mg := {
    m_sum := PySem.W.mg_none_of X G z_sum
    m_min := PySem.W.mg_none_of X G z_min
    m_abs := PySem.W.mg_none_of X G z_abs
    m_len := PySem.W.mg_none_of X G z_len
    m_range := PySem.W.mg_none_of X G z_range
    m_dict := PySem.W.mg_none_of X G z_dict
    m_isinstance := PySem.W.mg_none_of X G z_isinstance
    m_bool := PySem.W.mg_none_of X G z_bool
    m_int := PySem.W.mg_none_of X G z_int
    m_list := PySem.W.mg_none_of X G z_list
    m_sorted := PySem.W.mg_none_of X G z_sorted
    f_reach := f_reach
    d_reach := _
    F_reach := F_reach
    b_reach := F_reach.binds (ps := ["sizes", "many"]) fun _ _ _ _ _ _ us hl => match us, hl with | [_, _], _ => rfl
    g_reach := PySem.W.mg_of X G a_reach
    f__law_begun := f__law_begun
    d__law_begun := _
    F__law_begun := F__law_begun
    b__law_begun := F__law_begun.binds (ps := ["_law_script"]) fun _ _ _ _ _ _ us hl => match us, hl with | [_], _ => rfl
    g__law_begun := PySem.W.mg_of X G a__law_begun
    f__law_draw := f__law_draw
    d__law_draw := _
    F__law_draw := F__law_draw
    b__law_draw := F__law_draw.binds (ps := ["_law_state", "_law_number"]) fun _ _ _ _ _ _ us hl => match us, hl with | [_, _], _ => rfl
    g__law_draw := PySem.W.mg_of X G a__law_draw
    f__law_pick := f__law_pick
    d__law_pick := _
    F__law_pick := F__law_pick
    b__law_pick := F__law_pick.binds (ps := ["_law_state", "_law_some"]) fun _ _ _ _ _ _ us hl => match us, hl with | [_, _], _ => rfl
    g__law_pick := PySem.W.mg_of X G a__law_pick
    f__law_sizes := f__law_sizes
    d__law_sizes := _
    F__law_sizes := F__law_sizes
    b__law_sizes := F__law_sizes.binds (ps := ["_law_state"]) fun _ _ _ _ _ _ us hl => match us, hl with | [_], _ => rfl
    g__law_sizes := PySem.W.mg_of X G a__law_sizes
    f_law := fa
    d_law := _
    F_law := F_law
    kb_reach_many_sizes := kwb_mk F_reach fun _ _ _ _ _ _ us hl => match us, hl with | [_, _], _ => rfl }
  exact ⟨T.d_law, fun s v => .of_eq rfl, fun base _ _ => ok_law T⟩
theorem walk {l : PySem.W.OpenLaw} {q : Program} {loose : List Str} {XP : (Str → Option Value) → Heap → Prop} {YP : World → Heap → Prop} {d : DefRec} {K : Params → PySem.W.Frag} (hn : l.most = some 63) (hdf : d.params.defaults = [])
    (hY : ∀ (w : World) (h : Heap), YP w h → (K w.params).In h)
    (F : ∀ (w : World) (mg : Str → Option Value) (fa : Addr) (h : Heap), (K w.params).In h → h.Ns mainGlobals mg → mg d.name = some (.ref fa) →
      ∃ fd : FuncData, (∀ (s : Shared) (u : Value), BindsTo s fd ⟨[u], []⟩ [("_law_script", u)]) ∧ ∀ base : Heap, (K w.params).In base → base.Ns mainGlobals mg → FnOk l.prog w (K w.params) mg base CX0 4 fa fd ["_law_script"] (sp_law (K w.params))) :
    PySem.W.WalkO q loose XP YP l.row.toRowW d [] (fun f vs => PySem.call f vs) :=
  L2.walk_of (n := 63) (k := 4) (x := "_law_script") (CX := fun _ => CX0) (sp := fun w => sp_law (K w.params)) hn (by decide) hdf ⟨rfl, by decide, by decide⟩ hY F (fun _ _ a ns hl _ hS => law_in a ns hl hS) fun _ _ _ _ _ z => z

end B
open PySem PySem.W PyProof.Rows
set_option maxRecDepth 100000 in
set_option maxHeartbeats 0 in
theorem PySem.Challenge.cw_bygone_k20_lost_together_holds : PySem.Challenge.rw_bygone_k20_lost_together.Holds := by
  w_on; o_law; k_head; (case hw => w_witness2)
  k_fill
  refine B.walk (l := PySem.Challenge.rw_bygone_k20_lost_together) rfl rfl (fun w h Y => PySem.W.kIn_of Y) ?F
  case F =>
    intro w mg fa h KX G hmg
    refine' B.all_mk KX G hmg ?z_sum ?z_min ?z_abs ?z_len ?z_range ?z_dict ?z_isinstance ?z_bool ?z_int ?z_list ?z_sorted ?a_reach ?l_reach ?c_reach ?k_reach ?a__law_begun ?l__law_begun ?c__law_begun ?k__law_begun ?a__law_draw ?l__law_draw ?c__law_draw ?k__law_draw ?a__law_pick ?l__law_pick ?c__law_pick ?k__law_pick ?a__law_sizes ?l__law_sizes ?c__law_sizes ?k__law_sizes ?a_law ?l_law ?c_law ?k_law
    (case z_sum => k_is)
    (case z_min => k_is)
    (case z_abs => k_is)
    (case z_len => k_is)
    (case z_range => k_is)
    (case z_dict => k_is)
    (case z_isinstance => k_is)
    (case z_bool => k_is)
    (case z_int => k_is)
    (case z_list => k_is)
    (case z_sorted => k_is)
    (case a_reach => k_is)
    (case l_reach => k_is)
    (case c_reach => k_is)
    (case k_reach => k_is)
    (case a__law_begun => k_is)
    (case l__law_begun => k_is)
    (case c__law_begun => k_is)
    (case k__law_begun => k_is)
    (case a__law_draw => k_is)
    (case l__law_draw => k_is)
    (case c__law_draw => k_is)
    (case k__law_draw => k_is)
    (case a__law_pick => k_is)
    (case l__law_pick => k_is)
    (case c__law_pick => k_is)
    (case k__law_pick => k_is)
    (case a__law_sizes => k_is)
    (case l__law_sizes => k_is)
    (case c__law_sizes => k_is)
    (case k__law_sizes => k_is)
    (case a_law => k_is)
    (case l_law => k_is)
    (case c_law => k_is)
    (case k_law => k_is)
